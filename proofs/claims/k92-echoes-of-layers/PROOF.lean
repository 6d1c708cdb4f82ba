import PyProof.Rows.All
import Wide.All
import OpenK.AllK
import Wide.FinOn
import HandS.ForMost
import HandS.Codes
import HandS.Wide
import HandS.Gcd
import HandS.TupAny
import HandS.TupMul
import HandS.IsInst
import HandS.Star
import HandS.Zip
import HandS.Style
import HandS.Conv
import HandS.Deep
import KE.GoesMore
import KE.GoesEnum
import PyProof.Draws
import HandS.ForExc
import PySem.Challenge.RW_coilnets_k92_whole_echoes_of_layers
set_option Elab.async false
set_option linter.all false
set_option maxRecDepth 100000
set_option maxHeartbeats 8000000
/-! The layer DL: program values as pure data. -/
namespace DL
open PySem PySem.Spec L2

/-- a program's value as data; vw: a list that a name owns, seen while an expression is reckoned; row: the law's row of draws -/
inductive D where
  | non | bl (b : Bool) | int (i : Int) | str (x : Str) | tup (xs : List D) | lst (xs : List D) | vw (xs : List D) | row | ty (n : String)

/-- what the row of draws holds: the script, the place, the seed, the cell's rest -/
structure RS where
  xs : List Int
  i : Int
  sd : Int
  c : Int

mutual
/-- the value v stands for d in the heap H; all lists within lie in G; r: the row's address -/
def DR (K : PySem.W.Frag) (r : Option Addr) (G : Addr → Prop) (H : Hp) : D → V → Prop
  | .non, v => v = .non
  | .bl b, v => v = .bl b
  | .int i, v => v = .int i
  | .str x, v => v = .str x
  | .tup xs, v => ∃ a vs, v = .ref a ∧ SqT K H a vs ∧ DRs K r G H xs vs
  | .lst xs, v => ∃ a vs, v = .ref a ∧ H a = some (.lst vs) ∧ G a ∧ DRs K r G H xs vs
  | .vw _, _ => False
  | .row, v => ∃ a, v = .ref a ∧ r = some a
  | .ty n, v => v = .ty n
def DRs (K : PySem.W.Frag) (r : Option Addr) (G : Addr → Prop) (H : Hp) : List D → List V → Prop
  | [], vs => vs = []
  | d :: ds, vs => ∃ v ws, vs = v :: ws ∧ DR K r G H d v ∧ DRs K r G H ds ws
end

section
variable {K : PySem.W.Frag} {r : Option Addr} {G G' : Addr → Prop} {H H' : Hp}

theorem DRs.length : ∀ {ds : List D} {vs : List V}, DRs K r G H ds vs → ds.length = vs.length
  | [], vs, h => by unfold DRs at h; subst h; rfl
  | d :: ds, vs, h => by
    unfold DRs at h
    obtain ⟨v, ws, rfl, _, h2⟩ := h
    simp [DRs.length h2]
theorem DRs.get : ∀ {ds : List D} {vs : List V} {i : Nat} {d : D}, DRs K r G H ds vs → ds[i]? = some d → ∃ v, vs[i]? = some v ∧ DR K r G H d v
  | [], _, _, _, _, e => by simp at e
  | d :: ds, vs, 0, d', h, e => by
    unfold DRs at h
    obtain ⟨v, ws, rfl, h1, _⟩ := h
    have e' : d = d' := by simpa using e
    subst e'
    exact ⟨v, rfl, h1⟩
  | d :: ds, vs, i + 1, d', h, e => by
    unfold DRs at h
    obtain ⟨v, ws, rfl, _, h2⟩ := h
    exact DRs.get (i := i) h2 (by simpa using e)
theorem DRs.getV {ds : List D} {vs : List V} {i : Nat} {v : V} (h : DRs K r G H ds vs) (e : vs[i]? = some v) : ∃ d, ds[i]? = some d ∧ DR K r G H d v := by
  have hi : i < vs.length := (List.getElem?_eq_some_iff.mp e).1
  rw [← h.length] at hi
  obtain ⟨w, h1, h2⟩ := h.get (List.getElem?_eq_getElem hi)
  rw [e] at h1
  cases h1
  exact ⟨_, List.getElem?_eq_getElem hi, h2⟩
theorem DRs.nil : DRs K r G H [] [] := by unfold DRs; rfl
theorem DRs.cons {d : D} {ds : List D} {v : V} {vs : List V} (h1 : DR K r G H d v) (h2 : DRs K r G H ds vs) : DRs K r G H (d :: ds) (v :: vs) := by
  unfold DRs; exact ⟨v, vs, rfl, h1, h2⟩
theorem DRs.app : ∀ {ds es : List D} {vs ws : List V}, DRs K r G H ds vs → DRs K r G H es ws → DRs K r G H (ds ++ es) (vs ++ ws)
  | [], _, vs, _, h, h' => by unfold DRs at h; subst h; exact h'
  | d :: ds, _, vs, _, h, h' => by
    unfold DRs at h
    obtain ⟨v, ws, rfl, h1, h2⟩ := h
    exact .cons h1 (DRs.app h2 h')
theorem DRs.take : ∀ {ds : List D} {vs : List V} (n : Nat), DRs K r G H ds vs → DRs K r G H (ds.take n) (vs.take n)
  | _, _, 0, _ => by rw [List.take_zero, List.take_zero]; exact .nil
  | [], vs, n + 1, h => by unfold DRs at h; subst h; exact .nil
  | d :: ds, vs, n + 1, h => by
    unfold DRs at h
    obtain ⟨v, ws, rfl, h1, h2⟩ := h
    exact .cons h1 (DRs.take n h2)
theorem DRs.drop : ∀ {ds : List D} {vs : List V} (n : Nat), DRs K r G H ds vs → DRs K r G H (ds.drop n) (vs.drop n)
  | _, _, 0, h => h
  | [], vs, n + 1, h => by unfold DRs at h; subst h; exact .nil
  | d :: ds, vs, n + 1, h => by
    unfold DRs at h
    obtain ⟨v, ws, rfl, h1, h2⟩ := h
    exact DRs.drop n h2
theorem DRs.set {d : D} {v : V} (hd : DR K r G H d v) : ∀ {ds : List D} {vs : List V} (n : Nat), DRs K r G H ds vs → DRs K r G H (ds.set n d) (vs.set n v)
  | [], vs, n, h => by unfold DRs at h; subst h; exact .nil
  | e :: ds, vs, 0, h => by
    unfold DRs at h
    obtain ⟨w, ws, rfl, h1, h2⟩ := h
    exact .cons hd h2
  | e :: ds, vs, n + 1, h => by
    unfold DRs at h
    obtain ⟨w, ws, rfl, h1, h2⟩ := h
    exact .cons h1 (DRs.set hd n h2)
theorem DRs.rev : ∀ {ds : List D} {vs : List V}, DRs K r G H ds vs → DRs K r G H ds.reverse vs.reverse
  | [], vs, h => by unfold DRs at h; subst h; exact .nil
  | d :: ds, vs, h => by
    unfold DRs at h
    obtain ⟨v, ws, rfl, h1, h2⟩ := h
    rw [List.reverse_cons, List.reverse_cons]
    exact (DRs.rev h2).app (.cons h1 .nil)

/-- what is kept between two states: all that are no lists, and the lists in G -/
def Mono (G : Addr → Prop) (H : Hp) (G' : Addr → Prop) (H' : Hp) : Prop :=
  (∀ a o, H a = some o → (∀ xs, o ≠ .lst xs) → H' a = some o) ∧ ∀ a xs, H a = some (.lst xs) → G a → H' a = some (.lst xs) ∧ G' a
theorem Mono.refl : Mono G H G H := ⟨fun _ _ h _ => h, fun _ _ h g => ⟨h, g⟩⟩
theorem Mono.trans {G2 : Addr → Prop} {H2 : Hp} (a : Mono G H G' H') (b : Mono G' H' G2 H2) : Mono G H G2 H2 :=
  ⟨fun x o h n => b.1 x o (a.1 x o h n) n, fun x xs h g => let ⟨h1, g1⟩ := a.2 x xs h g; b.2 x xs h1 g1⟩
theorem Mono.sqT (m : Mono G H G' H') {a : Addr} {vs : List V} (h : SqT K H a vs) : SqT K H' a vs := by
  rcases h with (h | ⟨o, h⟩) | h
  · exact .inl (.inl (m.1 _ _ h fun _ => by intro e; cases e))
  · exact .inl (.inr ⟨o, m.1 _ _ h fun _ => by intro e; cases e⟩)
  · exact .inr h
mutual
theorem DR.mono (m : Mono G H G' H') : ∀ {d : D} {v : V}, DR K r G H d v → DR K r G' H' d v
  | .non, v, h => by unfold DR at h ⊢; exact h
  | .bl b, v, h => by unfold DR at h ⊢; exact h
  | .int i, v, h => by unfold DR at h ⊢; exact h
  | .str x, v, h => by unfold DR at h ⊢; exact h
  | .tup xs, v, h => by
    unfold DR at h ⊢
    obtain ⟨a, vs, e, h1, h2⟩ := h
    exact ⟨a, vs, e, m.sqT h1, DRs.mono m h2⟩
  | .lst xs, v, h => by
    unfold DR at h ⊢
    obtain ⟨a, vs, e, h1, h2, h3⟩ := h
    obtain ⟨h4, h5⟩ := m.2 a vs h1 h2
    exact ⟨a, vs, e, h4, h5, DRs.mono m h3⟩
  | .vw xs, v, h => by unfold DR at h; exact h.elim
  | .row, v, h => by unfold DR at h ⊢; exact h
  | .ty n, v, h => by unfold DR at h ⊢; exact h
theorem DRs.mono (m : Mono G H G' H') : ∀ {ds : List D} {vs : List V}, DRs K r G H ds vs → DRs K r G' H' ds vs
  | [], vs, h => by unfold DRs at h ⊢; exact h
  | d :: ds, vs, h => by
    unfold DRs at h ⊢
    obtain ⟨v, ws, e, h1, h2⟩ := h
    exact ⟨v, ws, e, DR.mono m h1, DRs.mono m h2⟩
end
end

/-! ### what a name holds; a frame -/
inductive Sl where
  | no | val (d : D) | own (xs : List D)
abbrev Ev := List Sl
/-- a frame: its first heap, where its arguments' lists lie, the row -/
structure Fr where
  Hs : Hp
  G : Addr → Prop
  r : Option Addr
  ban : Addr → Prop

/-- the script: read, never written -/
def Scr (K : PySem.W.Frag) (H : Hp) (q : Addr) (xs : List V) : Prop := ∀ H' : Hp, (∀ o u, H q = some (.frz o u) → H' q = some (.frz o u)) → SqL K H' q xs
def RowOk (K : PySem.W.Frag) (r : Option Addr) (H : Hp) (s : RS) : Prop := ∀ a, r = some a → ∃ q,
  H a = some (.lst [.ref q, .int s.i, .int s.sd, .int s.c]) ∧ Scr K H q (s.xs.map V.int)
/-- all but the row is kept -/
def Ext (r : Option Addr) (H H' : Hp) : Prop := ∀ a o, H a = some o → r ≠ some a → H' a = some o
theorem Ext.refl {r : Option Addr} {H : Hp} : Ext r H H := fun _ _ h _ => h
theorem Ext.trans {r : Option Addr} {H H1 H2 : Hp} (a : Ext r H H1) (b : Ext r H1 H2) : Ext r H H2 := fun x o h n => b x o (a x o h n) n

/-- addresses that are nobody's own -/
def Gd (F : Fr) (env : Ev) (σ : St) (a : Addr) : Prop :=
  (F.G a ∨ F.Hs a = none) ∧ (∀ (i : Nat) (xs : List D), env[i]? = some (Sl.own xs) → σ[i]? ≠ some (some (V.ref a))) ∧ F.r ≠ some a ∧ ¬ F.ban a

structure Rep (K : PySem.W.Frag) (F : Fr) (env : Ev) (s : RS) (σ : St) (H : Hp) : Prop where
  len : env.length = σ.length
  ext : Ext F.r F.Hs H
  row : RowOk K F.r H s
  ban : ∀ a, F.ban a → H a ≠ none
  own : ∀ (i : Nat) (xs : List D), env[i]? = some (Sl.own xs) → ∃ (a : Addr) (vs : List V), σ[i]? = some (some (V.ref a)) ∧ H a = some (.lst vs) ∧ DRs K F.r (Gd F env σ) H xs vs ∧ F.Hs a = none ∧ F.r ≠ some a ∧ ¬ F.ban a
  inj : ∀ (i j : Nat) (xs ys : List D) (a : Addr), env[i]? = some (Sl.own xs) → env[j]? = some (Sl.own ys) → σ[i]? = some (some (V.ref a)) → σ[j]? = some (some (V.ref a)) → i = j
  val : ∀ (i : Nat) (d : D), env[i]? = some (Sl.val d) → ∃ v, σ[i]? = some (some v) ∧ DR K F.r (Gd F env σ) H d v

/-- a value while an expression is reckoned -/
def DV (K : PySem.W.Frag) (F : Fr) (env : Ev) (σ : St) (H : Hp) (d : D) (v : V) : Prop := match d with
  | .vw xs => ∃ a vs, v = .ref a ∧ H a = some (.lst vs) ∧ DRs K F.r (Gd F env σ) H xs vs ∧ F.Hs a = none ∧ F.r ≠ some a
  | d => DR K F.r (Gd F env σ) H d v
def D.st : D → Bool
  | .vw _ => false
  | _ => true
theorem DV.of {K : PySem.W.Frag} {F : Fr} {env : Ev} {σ : St} {H : Hp} {d : D} {v : V} (h : DR K F.r (Gd F env σ) H d v) : DV K F env σ H d v := by
  cases d <;> first | exact h | (unfold DR at h; exact h.elim)
theorem DV.to {K : PySem.W.Frag} {F : Fr} {env : Ev} {σ : St} {H : Hp} {d : D} {v : V} (h : DV K F env σ H d v) (e : d.st = true) : DR K F.r (Gd F env σ) H d v := by
  cases d <;> first | exact h | cases e

section
variable {K : PySem.W.Frag} {F : Fr} {env : Ev} {s s' : RS} {σ : St} {H H' : Hp} {a p : Addr} {o : HO}
theorem Rep.row_some (R : Rep K F env s σ H) (h : F.r = some a) : ∃ xs, H a = some (.lst xs) := by
  obtain ⟨q, h1, _⟩ := R.row a h
  exact ⟨_, h1⟩
theorem Rep.notRow (R : Rep K F env s σ H) (h : H p = none) : F.r ≠ some p := fun e => by
  obtain ⟨xs, h1⟩ := R.row_some e
  rw [h] at h1; cases h1
/-- a new address is new to the frame, and nobody's own -/
theorem Rep.new (R : Rep K F env s σ H) (h : H p = none) : F.Hs p = none ∧ Gd F env σ p := by
  have h0 : F.Hs p = none := by
    cases q : F.Hs p with
    | none => rfl
    | some o =>
      have := R.ext p o q (R.notRow h)
      rw [h] at this; cases this
  refine ⟨h0, .inr h0, fun i xs e z => ?_, R.notRow h, fun z => R.ban p z h⟩
  obtain ⟨b, vs, e1, e2, _⟩ := R.own i xs e
  rw [e1] at z
  cases z
  rw [h] at e2; cases e2
/-- an expression's change is a Mono -/
theorem Rep.mono (R : Rep K F env s σ H) (x : Ext F.r H H') : Mono (Gd F env σ) H (Gd F env σ) H' := by
  refine ⟨fun b o h n => x b o h fun e => ?_, fun b xs h g => ⟨x b _ h g.2.2.1, g⟩⟩
  obtain ⟨xs, h1⟩ := R.row_some e
  rw [h] at h1; cases h1; exact n xs rfl
theorem DV.mono {d : D} {v : V} (R : Rep K F env s σ H) (x : Ext F.r H H') (h : DV K F env σ H d v) : DV K F env σ H' d v := by
  cases d with
  | vw xs =>
    obtain ⟨a, vs, e, h1, h2, h3, h4⟩ := h
    exact ⟨a, vs, e, x _ _ h1 h4, h2.mono (R.mono x), h3, h4⟩
  | _ => exact DV.of (DR.mono (R.mono x) h)
/-- the frame stands over a larger heap -/
theorem Rep.grow (R : Rep K F env s σ H) (x : Ext F.r H H') (hr : RowOk K F.r H' s') : Rep K F env s' σ H' := by
  refine ⟨R.len, R.ext.trans x, hr, fun a hb => ?_, fun i xs e => ?_, R.inj, fun i d e => ?_⟩
  · cases q : H a with
    | none => exact absurd q (R.ban a hb)
    | some o =>
      by_cases hr' : F.r = some a
      · obtain ⟨q', h1, _⟩ := hr a hr'
        rw [h1]; exact fun z => nomatch z
      · rw [x a o q hr']; exact fun z => nomatch z
  · obtain ⟨a, vs, e1, e2, e3, e4, e5, e6⟩ := R.own i xs e
    exact ⟨a, vs, e1, x _ _ e2 e5, e3.mono (R.mono x), e4, e5, e6⟩
  · obtain ⟨v, e1, e2⟩ := R.val i d e
    exact ⟨v, e1, e2.mono (R.mono x)⟩
theorem Scr.ext {q : Addr} {xs : List V} (h : Scr K H q xs) (x : ∀ o u, H q = some (.frz o u) → H' q = some (.frz o u)) : Scr K H' q xs :=
  fun H2 k => h H2 fun o u e => k o u (x o u e)
theorem RowOk.same (h : RowOk K F.r H s) (x : Same H H') : RowOk K F.r H' s := fun a e => by
  obtain ⟨q, h1, h2⟩ := h a e
  exact ⟨q, x _ _ h1, h2.ext fun o u z => x _ _ z⟩
theorem Rep.same (R : Rep K F env s σ H) (x : Same H H') : Rep K F env s σ H' := R.grow (fun a o h _ => x a o h) (R.row.same x)
theorem Same.ext {r : Option Addr} (x : Same H H') : Ext r H H' := fun a o h _ => x a o h
theorem same_upd (h : H p = none) : Same H (upd H p o) := fun b x e => by
  rw [upd_ne (ne_of_none e h)]; exact e
end
end DL

namespace DL
open PySem PySem.Spec L2

abbrev FE := Ev → RS → Option (D × RS)
abbrev FT := Ev → RS → Option (Bool × RS)
abbrev FA := Ev → RS → Option (List D × RS)
/-- the reading of a reckoning -/
def tE (K : PySem.W.Frag) (f : FE) : TE := fun σ H Q => ∃ (F : Fr) (env : Ev) (s : RS) (d : D) (s' : RS), Rep K F env s σ H ∧ f env s = some (d, s') ∧
  ∀ v H', Ext F.r H H' → Rep K F env s' σ H' → DV K F env σ H' d v → Q v H'
def tT (K : PySem.W.Frag) (f : FT) : TT := fun σ H Q => ∃ (F : Fr) (env : Ev) (s : RS) (b : Bool) (s' : RS), Rep K F env s σ H ∧ f env s = some (b, s') ∧
  ∀ H', Ext F.r H H' → Rep K F env s' σ H' → Q b H'
def DVs (K : PySem.W.Frag) (F : Fr) (env : Ev) (σ : L2.St) (H : Hp) : List D → List V → Prop
  | [], vs => vs = []
  | d :: ds, vs => ∃ v ws, vs = v :: ws ∧ DV K F env σ H d v ∧ DVs K F env σ H ds ws
def tA (K : PySem.W.Frag) (f : FA) : TA := fun σ H Q => ∃ (F : Fr) (env : Ev) (s : RS) (ds : List D) (s' : RS), Rep K F env s σ H ∧ f env s = some (ds, s') ∧
  ∀ vs H', Ext F.r H H' → Rep K F env s' σ H' → DVs K F env σ H' ds vs → Q vs H'

structure JE (X : Cx) (e : Expr) (f : FE) : Prop where
  p : PE X e (tE X.K f)
structure JT (X : Cx) (e : Expr) (f : FT) : Prop where
  p : PT X e (tT X.K f)
structure JW (X : Cx) (e : Expr) (f : FT) : Prop where
  p : PW X e (tT X.K f)
structure JA (X : Cx) (es : List Expr) (f : FA) : Prop where
  p : PA X es (tA X.K f)

theorem peW {X : Cx} {e : Expr} {t t' : TE} (h : PE X e t) (w : ∀ σ H Q, t' σ H Q → t σ H Q) : PE X e t' := ⟨fun pins s σ H Q I q => h.run pins s σ H Q I (w _ _ _ q)⟩
theorem ptW {X : Cx} {e : Expr} {t t' : TT} (h : PT X e t) (w : ∀ σ H Q, t' σ H Q → t σ H Q) : PT X e t' := ⟨fun pins s σ H Q I q => h.run pins s σ H Q I (w _ _ _ q)⟩
theorem pwW {X : Cx} {e : Expr} {t t' : TT} (h : PW X e t) (w : ∀ σ H Q, t' σ H Q → t σ H Q) : PW X e t' := ⟨fun wh pins s σ H Q I q => h.run wh pins s σ H Q I (w _ _ _ q)⟩
theorem paW {X : Cx} {es : List Expr} {t t' : TA} (h : PA X es t) (w : ∀ σ H Q, t' σ H Q → t σ H Q) : PA X es t' := ⟨fun pos pins s σ H Q I q => h.run pos pins s σ H Q I (w _ _ _ q)⟩

section
variable {K : PySem.W.Frag} {F : Fr} {env : Ev} {s s' : RS} {σ : L2.St} {H H' : Hp}
theorem DVs.mono (R : Rep K F env s σ H) (x : Ext F.r H H') : ∀ {ds : List D} {vs : List V}, DVs K F env σ H ds vs → DVs K F env σ H' ds vs
  | [], vs, h => h
  | d :: ds, vs, h => by
    obtain ⟨v, ws, e, h1, h2⟩ := h
    exact ⟨v, ws, e, h1.mono R x, DVs.mono R x h2⟩
theorem DVs.to : ∀ {ds : List D} {vs : List V}, DVs K F env σ H ds vs → ds.all D.st = true → DRs K F.r (Gd F env σ) H ds vs
  | [], vs, h, _ => by unfold DRs; exact h
  | d :: ds, vs, h, e => by
    rw [List.all_cons, Bool.and_eq_true] at e
    obtain ⟨v, ws, rfl, h1, h2⟩ := h
    exact .cons (h1.to e.1) (DVs.to h2 e.2)
theorem DVs.of : ∀ {ds : List D} {vs : List V}, DRs K F.r (Gd F env σ) H ds vs → DVs K F env σ H ds vs
  | [], vs, h => by unfold DRs at h; exact h
  | d :: ds, vs, h => by
    unfold DRs at h
    obtain ⟨v, ws, rfl, h1, h2⟩ := h
    exact ⟨v, ws, rfl, DV.of h1, DVs.of h2⟩
end

/-! ### one value, two values -/
def f1 (fa : FE) (g : D → Option D) : FE := fun env s => match fa env s with
  | none => none
  | some (x, s1) => match g x with
    | none => none
    | some d => some (d, s1)
def f2 (fa fb : FE) (g : D → D → Option D) : FE := fun env s => match fa env s with
  | none => none
  | some (x, s1) => match fb env s1 with
    | none => none
    | some (y, s2) => match g x y with
      | none => none
      | some d => some (d, s2)
theorem f1_inv {fa : FE} {g : D → Option D} {env : Ev} {s s' : RS} {d : D} (h : f1 fa g env s = some (d, s')) : ∃ x, fa env s = some (x, s') ∧ g x = some d := by
  unfold f1 at h
  split at h
  · cases h
  · rename_i x s1 e
    split at h
    · cases h
    · rename_i d' e2
      cases h
      exact ⟨x, e, e2⟩
theorem f2_inv {fa fb : FE} {g : D → D → Option D} {env : Ev} {s s' : RS} {d : D} (h : f2 fa fb g env s = some (d, s')) : ∃ x s1 y, fa env s = some (x, s1) ∧ fb env s1 = some (y, s') ∧ g x y = some d := by
  unfold f2 at h
  split at h
  · cases h
  · rename_i x s1 e
    split at h
    · cases h
    · rename_i y s2 e1
      split at h
      · cases h
      · rename_i d' e2
        cases h
        exact ⟨x, s1, y, e, e1, e2⟩
/-- an operation on values carries an operation on data -/
def Op2 (K : PySem.W.Frag) (r : R2) (g : D → D → Option D) : Prop := ∀ (F : Fr) (env : Ev) (s : RS) (σ : L2.St) (H : Hp) (x y d : D) (u v : V) (Q : VK), Rep K F env s σ H → DV K F env σ H x u → DV K F env σ H y v → g x y = some d →
  (∀ w H', Same H H' → DV K F env σ H' d w → Q w H') → r u v H Q
def Op1 (K : PySem.W.Frag) (r : V → Hp → VK → Prop) (g : D → Option D) : Prop := ∀ (F : Fr) (env : Ev) (s : RS) (σ : L2.St) (H : Hp) (x d : D) (u : V) (Q : VK), Rep K F env s σ H → DV K F env σ H x u → g x = some d →
  (∀ w H', Same H H' → DV K F env σ H' d w → Q w H') → r u H Q
def OpN (K : PySem.W.Frag) (r : List V → Hp → VK → Prop) (g : List D → Option D) : Prop := ∀ (F : Fr) (env : Ev) (s : RS) (σ : L2.St) (H : Hp) (xs : List D) (d : D) (us : List V) (Q : VK), Rep K F env s σ H → DVs K F env σ H xs us → g xs = some d →
  (∀ w H', Same H H' → DV K F env σ H' d w → Q w H') → r us H Q

section
variable {X : Cx} {K : PySem.W.Frag} {F : Fr} {a b c e : Expr} {es : List Expr} {fa fb fc f : FE} {pos p : Pos}

theorem two_run {r : R2} {g : D → D → Option D} (o : Op2 K r g) {σ : L2.St} {H : Hp} {Q : VK} (h : tE K (f2 fa fb g) σ H Q) : tOp r (tE K fa) (tE K fb) σ H Q := by
  obtain ⟨F, env, s, d, s', R, e, q⟩ := h
  obtain ⟨x, s1, y, e1, e2, e3⟩ := f2_inv e
  refine ⟨F, env, s, x, s1, R, e1, fun u H1 x1 R1 d1 => ⟨F, env, s1, y, s', R1, e2, fun v H2 x2 R2 d2 => ?_⟩⟩
  exact o F env s' σ H2 x y d u v Q R2 (d1.mono R1 x2) d2 e3 fun w H3 sm dw => q w H3 (x1.trans (x2.trans (Same.ext sm))) (R2.same sm) dw
theorem je_bin {op : Operator} {r : R2} {g : D → D → Option D} (ho : OpR X (binaryOp op) r) (o : Op2 X.K r g) (ha : JE X a fa) (hb : JE X b fb) : JE X (.BinOp a op b pos) (f2 fa fb g) :=
  ⟨peW (pe_op ho ha.p hb.p) fun _ _ _ h => two_run o h⟩
theorem je_cmp {op : CmpOp} {r : R2} {g : D → D → Option D} (ho : OpR X (compareOp op) r) (o : Op2 X.K r g) (ha : JE X a fa) (hb : JE X b fb) (hm : behindInMarks op b = false) : JE X (.Compare a [op] [b] pos) (f2 fa fb g) :=
  ⟨peW (pe_cmpR ho ha.p hb.p hm) fun _ _ _ h => two_run o h⟩
/-- the bool of a value -/
def bt (f : FE) : FT := fun env s => match f env s with
  | some (.bl b, s') => some (b, s')
  | _ => none
theorem bt_inv {f : FE} {env : Ev} {s s' : RS} {b : Bool} (h : bt f env s = some (b, s')) : f env s = some (.bl b, s') := by
  unfold bt at h
  split at h
  · rename_i e; cases h; exact e
  · cases h
theorem bt_run {t : TE} (ht : ∀ σ H Q, tE K f σ H Q → t σ H Q) {σ : L2.St} {H : Hp} {Q : Bool → Hp → Prop} (h : tT K (bt f) σ H Q) : tTest t σ H Q := by
  obtain ⟨F, env, s, b, s', R, e, q⟩ := h
  refine ht _ _ _ ⟨F, env, s, .bl b, s', R, bt_inv e, fun v H' x R' d => ?_⟩
  have d' : v = .bl b := by have := DV.to d rfl; unfold DR at this; exact this
  exact ⟨b, d', q H' x R'⟩
theorem jt_cmp {op : CmpOp} {r : R2} {g : D → D → Option D} (ho : OpR X (compareOp op) r) (o : Op2 X.K r g) (ha : JE X a fa) (hb : JE X b fb) (hm : behindInMarks op b = false) : JT X (.Compare a [op] [b] pos) (bt (f2 fa fb g)) :=
  ⟨ptW (pt_cmpR ho ha.p hb.p hm) fun _ _ _ h => bt_run (fun _ _ _ h' => two_run o h') h⟩
theorem jt_val (he : JE X e f) (hw : ∀ whole, isTrue e X.env whole = (do let v ← whole; standAt e.pos; holding [v] (truthy v)) := by intro _; rfl) : JT X e (bt f) :=
  ⟨ptW (pt_val he.p hw) fun _ _ _ h => bt_run (fun _ _ _ h' => h') h⟩
/-- a chain of two comparisons -/
def f3 (fa fb fc : FE) (g g' : D → D → Option D) : FE := fun env s => match fa env s with
  | none => none
  | some (x, s1) => match fb env s1 with
    | none => none
    | some (y, s2) => match g x y with
      | some (.bl true) => (match fc env s2 with
        | none => none
        | some (z, s3) => match g' y z with
          | none => none
          | some d => some (d, s3))
      | some (.bl false) => some (.bl false, s2)
      | _ => none
theorem chain_run {r r' : R2} {g g' : D → D → Option D} (o : Op2 K r g) (o' : Op2 K r' g') {σ : L2.St} {H : Hp} {Q : VK} (h : tE K (f3 fa fb fc g g') σ H Q) : tChain r r' (tE K fa) (tE K fb) (tE K fc) σ H Q := by
  obtain ⟨F, env, s, d, s', R, e, q⟩ := h
  unfold f3 at e
  split at e
  · cases e
  · rename_i x s1 e1
    split at e
    · cases e
    · rename_i y s2 e2
      refine ⟨F, env, s, x, s1, R, e1, fun u H1 x1 R1 d1 => ⟨F, env, s1, y, s2, R1, e2, fun v H2 x2 R2 d2 => ?_⟩⟩
      split at e
      · rename_i e3
        refine o F env s2 σ H2 x y _ u v _ R2 (d1.mono R1 x2) d2 e3 fun w H3 sm dw => ?_
        have dw' : w = .bl true := by have := DV.to dw rfl; unfold DR at this; exact this
        refine ⟨true, dw', iteT ?_⟩
        split at e
        · cases e
        · rename_i z s3 e4
          split at e
          · cases e
          · rename_i d' e5
            cases e
            refine ⟨F, env, s2, z, s', R2.same sm, e4, fun w2 H4 x4 R4 d4 => ?_⟩
            refine o' F env s' σ H4 y z d v w2 Q R4 ((d2.mono R2 (Same.ext sm)).mono (R2.same sm) x4) d4 e5 fun w3 H5 sm5 d5 => ?_
            exact q w3 H5 (x1.trans (x2.trans ((Same.ext sm).trans (x4.trans (Same.ext sm5))))) (R4.same sm5) d5
      · rename_i e3
        cases e
        refine o F env s' σ H2 x y _ u v _ R2 (d1.mono R1 x2) d2 e3 fun w H3 sm dw => ?_
        have dw' : w = .bl false := by have := DV.to dw rfl; unfold DR at this; exact this
        refine ⟨false, dw', iteF ?_⟩
        exact q _ H3 (x1.trans (x2.trans (Same.ext sm))) (R2.same sm) (DV.of (by unfold DR; rfl))
      · cases e
theorem je_chain {op op' : CmpOp} {r r' : R2} {g g' : D → D → Option D} (ho : OpR X (compareOp op) r) (ho' : OpR X (compareOp op') r') (o : Op2 X.K r g) (o' : Op2 X.K r' g') (ha : JE X a fa) (hb : JE X b fb) (hc : JE X c fc)
    (hm : lastMarks [op, op'] [b, c] = false := by with_unfolding_all rfl) : JE X (.Compare a [op, op'] [b, c] pos) (f3 fa fb fc g g') :=
  ⟨peW (pe_chain ho ho' ha.p hb.p hc.p hm) fun _ _ _ h => chain_run o o' h⟩
theorem jt_chain {op op' : CmpOp} {r r' : R2} {g g' : D → D → Option D} (ho : OpR X (compareOp op) r) (ho' : OpR X (compareOp op') r') (o : Op2 X.K r g) (o' : Op2 X.K r' g') (ha : JE X a fa) (hb : JE X b fb) (hc : JE X c fc)
    (hm : lastMarks [op, op'] [b, c] = false := by with_unfolding_all rfl) : JT X (.Compare a [op, op'] [b, c] pos) (bt (f3 fa fb fc g g')) :=
  ⟨ptW (pt_chain ho ho' ha.p hb.p hc.p hm) fun _ _ _ h => bt_run (fun _ _ _ h' => chain_run o o' h') h⟩

theorem je_un {op : UnaryOp} {r : V → Hp → VK → Prop} {g : D → Option D} (ho : UnR X (unaryOp op) r) (o : Op1 X.K r g) (ha : JE X a fa) : JE X (.UnaryOp op a pos) (f1 fa g) :=
  ⟨peW (pe_un ho ha.p) fun σ H Q ⟨F, env, s, d, s', R, e, q⟩ => by
    obtain ⟨x, e1, e2⟩ := f1_inv e
    exact ⟨F, env, s, x, s', R, e1, fun u H1 x1 R1 d1 => o F env s' σ H1 x d u Q R1 d1 e2 fun w H2 sm dw => q w H2 (x1.trans (Same.ext sm)) (R1.same sm) dw⟩⟩

/-! ### names, constants -/
def fV (i : Nat) : FE := fun env s => match env[i]? with
  | some (.val d) => some (d, s)
  | some (.own xs) => some (.vw xs, s)
  | _ => none
theorem fv_run {i : Nat} {σ : L2.St} {H : Hp} {Q : VK} (h : tE K (fV i) σ H Q) : tVar i σ H Q := by
  obtain ⟨F, env, s, d, s', R, e, q⟩ := h
  unfold fV at e
  split at e
  · rename_i d' e1
    cases e
    obtain ⟨v, h1, h2⟩ := R.val i d e1
    exact ⟨v, h1, q v H Ext.refl R (DV.of h2)⟩
  · rename_i xs e1
    cases e
    obtain ⟨a, vs, h1, h2, h3, h4, h5, _⟩ := R.own i xs e1
    exact ⟨.ref a, h1, q _ H Ext.refl R ⟨a, vs, rfl, h2, h3, h4, h5⟩⟩
  · cases e
theorem jv (i : Nat) {x : Str} (hN : X.N[i]? = some x := by rfl) (hv : Vis X.env.scope x := by first | exact Or.inl rfl | exact Or.inr (Or.inl rfl) | exact Or.inr (Or.inr rfl)) (hd : (x == ("__debug__" : Str)) = false := by decide)
    (hcd : (x == ("__classdict__" : Str)) = false := by decide) : JE X (.Name x pos) (fV i) := ⟨peW (pv i hN hv hd hcd) fun _ _ _ h => fv_run h⟩
def fC (d : D) : FE := fun _ s => some (d, s)
theorem fc_run {d : D} {v : V} (hd : ∀ r G H, DR K r G H d v) {σ : L2.St} {H : Hp} {Q : VK} (h : tE K (fC d) σ H Q) : tC v σ H Q := by
  obtain ⟨F, env, s, d', s', R, e, q⟩ := h
  cases e
  exact q v H Ext.refl R (DV.of (hd _ _ _))
theorem je_int {i : Int} {j : Nat} : JE X (.Constant (.int i) j pos) (fC (.int i)) := ⟨peW pe_int fun _ _ _ h => fc_run (fun _ _ _ => by unfold DR; rfl) h⟩
theorem je_bl {i : Bool} {j : Nat} : JE X (.Constant (.bool i) j pos) (fC (.bl i)) := ⟨peW pe_bl fun _ _ _ h => fc_run (fun _ _ _ => by unfold DR; rfl) h⟩
theorem je_non {j : Nat} : JE X (.Constant .none j pos) (fC .non) := ⟨peW pe_non fun _ _ _ h => fc_run (fun _ _ _ => by unfold DR; rfl) h⟩
theorem je_str {x : Str} {j : Nat} : JE X (.Constant (.str x) j pos) (fC (.str x)) := ⟨peW pe_str fun _ _ _ h => fc_run (fun _ _ _ => by unfold DR; rfl) h⟩
/-- a constant of the module's top, as it stands in the written part -/
def Glb (K : PySem.W.Frag) (mg : Str → Option Value) (x : Str) (d : D) : Prop := ∃ v u, mg x = some u ∧ RelV v u ∧ ∀ r G H, DR K r G H d v
theorem je_glob {x : Str} {d : D} (g : Glb X.K X.mg x d) (hg : Gl X x) (hd : (x == ("__debug__" : Str)) = false := by decide) : JE X (.Name x pos) (fC d) := by
  obtain ⟨v, u, h1, h2, h3⟩ := g
  exact ⟨peW (pe_glob hg h1 h2 hd) fun _ _ _ h => fc_run (fun r G H => h3 r G H) h⟩

/-! ### lists of expressions -/
def fNil : FA := fun _ s => some ([], s)
def fCons (f : FE) (g : FA) : FA := fun env s => match f env s with
  | none => none
  | some (x, s1) => match g env s1 with
    | none => none
    | some (xs, s2) => some (x :: xs, s2)
/-- items of a list or a tuple -/
def its : D → Option (List D)
  | .lst xs => some xs
  | .vw xs => some xs
  | .tup xs => some xs
  | _ => none
def fStar (f : FE) (g : FA) : FA := fun env s => match f env s with
  | none => none
  | some (x, s1) => match its x with
    | none => none
    | some ys => match g env s1 with
      | none => none
      | some (xs, s2) => some (ys ++ xs, s2)
theorem ja_nil : JA X [] fNil := ⟨paW pa_nil fun σ H Q ⟨F, env, s, ds, s', R, e, q⟩ => by
  cases e
  exact q [] H Ext.refl R rfl⟩
theorem ja_cons {fr : FA} (ha : JE X e f) (hr : JA X es fr) (hs : starEach (e :: es) X.env = (false, eval e X.env) :: starEach es X.env := by rfl) : JA X (e :: es) (fCons f fr) :=
  ⟨paW (pa_cons ha.p hr.p hs) fun σ H Q ⟨F, env, s, ds, s', R, h, q⟩ => by
    unfold fCons at h
    split at h
    · cases h
    · rename_i x s1 e1
      split at h
      · cases h
      · rename_i xs s2 e2
        cases h
        exact ⟨F, env, s, x, s1, R, e1, fun u H1 x1 R1 d1 => ⟨F, env, s1, xs, s', R1, e2, fun us H2 x2 R2 d2 => q (u :: us) H2 (x1.trans x2) R2 ⟨u, us, rfl, d1.mono R1 x2, d2⟩⟩⟩⟩
theorem DV.its {env : Ev} {s : RS} {σ : L2.St} {H : Hp} {d : D} {xs : List D} {v : V} (h : DV K F env σ H d v) (e : its d = some xs) :
    ∃ a vs, v = .ref a ∧ (SqT K H a vs ∨ SqL K H a vs) ∧ DRs K F.r (Gd F env σ) H xs vs := by
  cases d with
  | tup ys =>
    cases e
    have h' := DV.to h rfl
    unfold DR at h'
    obtain ⟨a, vs, e1, h1, h2⟩ := h'
    exact ⟨a, vs, e1, .inl h1, h2⟩
  | lst ys =>
    cases e
    have h' := DV.to h rfl
    unfold DR at h'
    obtain ⟨a, vs, e1, h1, _, h2⟩ := h'
    exact ⟨a, vs, e1, .inr (.of h1), h2⟩
  | vw ys =>
    cases e
    obtain ⟨a, vs, e1, h1, h2, _⟩ := h
    exact ⟨a, vs, e1, .inr (.of h1), h2⟩
  | _ => cases e
theorem DVs.app {env : Ev} {σ : L2.St} {H : Hp} : ∀ {ds es : List D} {vs ws : List V}, DVs K F env σ H ds vs → DVs K F env σ H es ws → DVs K F env σ H (ds ++ es) (vs ++ ws)
  | [], _, vs, _, h, h' => by cases h; exact h'
  | d :: ds, _, vs, _, h, h' => by
    obtain ⟨v, ws, rfl, h1, h2⟩ := h
    exact ⟨v, _, rfl, h1, DVs.app h2 h'⟩
theorem ja_star {fr : FA} {sp : Pos} (ha : JE X e f) (hr : JA X es fr) (hs : starEach (.Starred e sp :: es) X.env = (true, eval e X.env) :: starEach es X.env := by rfl) : JA X (.Starred e sp :: es) (fStar f fr) :=
  ⟨paW (StX.pa_star ha.p hr.p hs) fun σ H Q ⟨F, env, s, ds, s', R, h, q⟩ => by
    unfold fStar at h
    split at h
    · cases h
    · rename_i x s1 e1
      split at h
      · cases h
      · rename_i ys ey
        split at h
        · cases h
        · rename_i xs s2 e2
          cases h
          refine ⟨F, env, s, x, s1, R, e1, fun u H1 x1 R1 d1 => ?_⟩
          obtain ⟨a, vs, rfl, hx, dy⟩ := DV.its (s := s1) d1 ey
          refine ⟨a, vs, rfl, hx, F, env, s1, xs, s', R1, e2, fun us H2 x2 R2 d2 => q _ H2 (x1.trans x2) R2 ?_⟩
          exact (DVs.mono R1 x2 (DVs.of dy)).app d2⟩

/-- a new tuple, a new list -/
def gTupD (xs : List D) : Option D := if xs.all D.st = true ∧ xs.length ≤ 1000000 then some (.tup xs) else none
def gLstD (xs : List D) : Option D := if xs.all D.st = true ∧ xs.length ≤ 1000000 then some (.lst xs) else none
theorem le_line {n : Nat} (h : n ≤ 1000000) : n ≤ sizeLine := Nat.le_trans h (by decide)
theorem lt_line {n : Nat} (h : n ≤ 1000000) : n < sizeLine := Nat.lt_of_le_of_lt h (by decide)
theorem new_tup {env : Ev} {s : RS} {σ : L2.St} {H : Hp} {xs : List D} {vs : List V} {q : Addr} (R : Rep K F env s σ H) (h : DRs K F.r (Gd F env σ) H xs vs) (n : H q = none) : DV K F env σ (upd H q (.tup vs)) (.tup xs) (.ref q) := by
  refine DV.of ?_
  unfold DR
  exact ⟨q, vs, rfl, .of upd_same, h.mono (R.mono (Same.ext (same_upd n)))⟩
theorem new_lst {env : Ev} {s : RS} {σ : L2.St} {H : Hp} {xs : List D} {vs : List V} {q : Addr} (R : Rep K F env s σ H) (h : DRs K F.r (Gd F env σ) H xs vs) (n : H q = none) : DV K F env σ (upd H q (.lst vs)) (.lst xs) (.ref q) := by
  refine DV.of ?_
  unfold DR
  exact ⟨q, vs, rfl, upd_same, (R.new n).2, h.mono (R.mono (Same.ext (same_upd n)))⟩
def fA1 (f : FA) (g : List D → Option D) : FE := fun env s => match f env s with
  | none => none
  | some (xs, s1) => match g xs with
    | none => none
    | some d => some (d, s1)
theorem fA1_inv {f : FA} {g : List D → Option D} {env : Ev} {s s' : RS} {d : D} (h : fA1 f g env s = some (d, s')) : ∃ xs, f env s = some (xs, s') ∧ g xs = some d := by
  unfold fA1 at h
  split at h
  · cases h
  · rename_i x s1 e
    split at h
    · cases h
    · rename_i d' e2
      cases h
      exact ⟨x, e, e2⟩
theorem je_tup {fr : FA} {x1} (h : JA X es fr) : JE X (.Tuple es x1 pos) (fA1 fr gTupD) :=
  ⟨peW (pe_tup h.p) fun σ H Q ⟨F, env, s, d, s', R, e, q⟩ => by
    obtain ⟨xs, e1, e2⟩ := fA1_inv e
    unfold gTupD at e2
    split at e2
    · rename_i hx
      cases e2
      refine ⟨F, env, s, xs, s', R, e1, fun vs H1 x1 R1 d1 => ?_⟩
      have d2 := d1.to hx.1
      refine ⟨by rw [← d2.length]; exact le_line hx.2, fun p n => q _ _ (x1.trans (Same.ext (same_upd n))) (R1.same (same_upd n)) (new_tup R1 d2 n)⟩
    · cases e2⟩
theorem je_lst {fr : FA} (h : JA X es fr) : JE X (.List es pos) (fA1 fr gLstD) :=
  ⟨peW (pe_lst h.p) fun σ H Q ⟨F, env, s, d, s', R, e, q⟩ => by
    obtain ⟨xs, e1, e2⟩ := fA1_inv e
    unfold gLstD at e2
    split at e2
    · rename_i hx
      cases e2
      refine ⟨F, env, s, xs, s', R, e1, fun vs H1 x1 R1 d1 => ?_⟩
      have d2 := d1.to hx.1
      refine ⟨by rw [← d2.length]; exact le_line hx.2, fun p n => q _ _ (x1.trans (Same.ext (same_upd n))) (R1.same (same_upd n)) (new_lst R1 d2 n)⟩
    · cases e2⟩

/-! ### and, or, not, if -/
def tAndF (f g : FT) : FT := fun env s => match f env s with
  | none => none
  | some (true, s1) => g env s1
  | some (false, s1) => some (false, s1)
def tOrF (f g : FT) : FT := fun env s => match f env s with
  | none => none
  | some (true, s1) => some (true, s1)
  | some (false, s1) => g env s1
def tNotF (f : FT) : FT := fun env s => match f env s with
  | none => none
  | some (b, s1) => some (!b, s1)
variable {g g' : FT} {rest : List Expr}
theorem jw_and1 (h : JT X a g) : JW X (.BoolOp .And [a] pos) g := ⟨pw_and1 h.p⟩
theorem jw_or1 (h : JT X a g) : JW X (.BoolOp .Or [a] pos) g := ⟨pw_or1 h.p⟩
theorem jw_and (h : JT X a g) (h' : JW X (.BoolOp .And (b :: rest) pos) g') : JW X (.BoolOp .And (a :: b :: rest) pos) (tAndF g g') :=
  ⟨pwW (pw_and h.p h'.p) fun σ H Q ⟨F, env, s, k, s', R, e, q⟩ => by
    unfold tAndF at e
    split at e
    · cases e
    · rename_i s1 e1
      exact ⟨F, env, s, true, s1, R, e1, fun H1 x1 R1 => iteT ⟨F, env, s1, k, s', R1, e, fun H2 x2 R2 => q H2 (x1.trans x2) R2⟩⟩
    · rename_i s1 e1
      cases e
      exact ⟨F, env, s, false, s', R, e1, fun H1 x1 R1 => iteF (q H1 x1 R1)⟩⟩
theorem jw_or (h : JT X a g) (h' : JW X (.BoolOp .Or (b :: rest) pos) g') : JW X (.BoolOp .Or (a :: b :: rest) pos) (tOrF g g') :=
  ⟨pwW (pw_or h.p h'.p) fun σ H Q ⟨F, env, s, k, s', R, e, q⟩ => by
    unfold tOrF at e
    split at e
    · cases e
    · rename_i s1 e1
      cases e
      exact ⟨F, env, s, true, s', R, e1, fun H1 x1 R1 => iteT (q H1 x1 R1)⟩
    · rename_i s1 e1
      exact ⟨F, env, s, false, s1, R, e1, fun H1 x1 R1 => iteF ⟨F, env, s1, k, s', R1, e, fun H2 x2 R2 => q H2 (x1.trans x2) R2⟩⟩⟩
theorem jw (h : JW X e g) : JT X e g := ⟨h.p.pt⟩
theorem jt_not (h : JT X a g) : JT X (.UnaryOp .Not a pos) (tNotF g) :=
  ⟨ptW (pt_not h.p) fun σ H Q ⟨F, env, s, k, s', R, e, q⟩ => by
    unfold tNotF at e
    split at e
    · cases e
    · rename_i b s1 e1
      cases e
      exact ⟨F, env, s, b, s', R, e1, fun H1 x1 R1 => q H1 x1 R1⟩⟩
/-- as values: all but the last are bools -/
def fAnd (f g : FE) : FE := fun env s => match f env s with
  | some (.bl true, s1) => g env s1
  | some (.bl false, s1) => some (.bl false, s1)
  | _ => none
def fOr (f g : FE) : FE := fun env s => match f env s with
  | some (.bl true, s1) => some (.bl true, s1)
  | some (.bl false, s1) => g env s1
  | _ => none
theorem DV.bl {env : Ev} {σ : L2.St} {H : Hp} {b : Bool} {v : V} (h : DV K F env σ H (.bl b) v) : v = .bl b := by have := DV.to h rfl; unfold DR at this; exact this
theorem DV.mkb {env : Ev} {σ : L2.St} {H : Hp} {b : Bool} : DV K F env σ H (.bl b) (.bl b) := DV.of (by unfold DR; rfl)
theorem DV.int {env : Ev} {σ : L2.St} {H : Hp} {b : Int} {v : V} (h : DV K F env σ H (.int b) v) : v = .int b := by have := DV.to h rfl; unfold DR at this; exact this
theorem DV.mki {env : Ev} {σ : L2.St} {H : Hp} {b : Int} : DV K F env σ H (.int b) (.int b) := DV.of (by unfold DR; rfl)
theorem DV.str {env : Ev} {σ : L2.St} {H : Hp} {b : Str} {v : V} (h : DV K F env σ H (.str b) v) : v = .str b := by have := DV.to h rfl; unfold DR at this; exact this
theorem DV.mks {env : Ev} {σ : L2.St} {H : Hp} {b : Str} : DV K F env σ H (.str b) (.str b) := DV.of (by unfold DR; rfl)
theorem DV.mkn {env : Ev} {σ : L2.St} {H : Hp} : DV K F env σ H .non .non := DV.of (by unfold DR; rfl)
theorem je_one {op : BoolOp} (h : JE X a fa) : JE X (.BoolOp op [a] pos) fa := ⟨pe_one h.p⟩
theorem je_and (h : JE X a fa) (h' : JE X (.BoolOp .And (b :: rest) pos) fb) : JE X (.BoolOp .And (a :: b :: rest) pos) (fAnd fa fb) :=
  ⟨peW (pe_and h.p h'.p) fun σ H Q ⟨F, env, s, d, s', R, e, q⟩ => by
    unfold fAnd at e
    split at e
    · rename_i s1 e1
      exact ⟨F, env, s, _, s1, R, e1, fun v H1 x1 R1 d1 => ⟨true, d1.bl, iteT ⟨F, env, s1, d, s', R1, e, fun w H2 x2 R2 d2 => q w H2 (x1.trans x2) R2 d2⟩⟩⟩
    · rename_i s1 e1
      cases e
      exact ⟨F, env, s, _, s', R, e1, fun v H1 x1 R1 d1 => ⟨false, d1.bl, iteF (q _ H1 x1 R1 DV.mkb)⟩⟩
    · cases e⟩
theorem je_or (h : JE X a fa) (h' : JE X (.BoolOp .Or (b :: rest) pos) fb) : JE X (.BoolOp .Or (a :: b :: rest) pos) (fOr fa fb) :=
  ⟨peW (pe_or h.p h'.p) fun σ H Q ⟨F, env, s, d, s', R, e, q⟩ => by
    unfold fOr at e
    split at e
    · rename_i s1 e1
      cases e
      exact ⟨F, env, s, _, s', R, e1, fun v H1 x1 R1 d1 => ⟨true, d1.bl, iteT (q _ H1 x1 R1 DV.mkb)⟩⟩
    · rename_i s1 e1
      exact ⟨F, env, s, _, s1, R, e1, fun v H1 x1 R1 d1 => ⟨false, d1.bl, iteF ⟨F, env, s1, d, s', R1, e, fun w H2 x2 R2 d2 => q w H2 (x1.trans x2) R2 d2⟩⟩⟩
    · cases e⟩
def gNot : D → Option D
  | .bl b => some (.bl !b)
  | _ => none
theorem je_not (h : JE X a fa) : JE X (.UnaryOp .Not a pos) (f1 fa gNot) :=
  ⟨peW (pe_not h.p) fun σ H Q ⟨F, env, s, d, s', R, e, q⟩ => by
    obtain ⟨x, e1, e2⟩ := f1_inv e
    cases x <;> try (cases e2)
    rename_i b
    exact ⟨F, env, s, _, s', R, e1, fun v H1 x1 R1 d1 => ⟨b, d1.bl, q _ H1 x1 R1 DV.mkb⟩⟩⟩
def fIf (t : FT) (f g : FE) : FE := fun env s => match t env s with
  | none => none
  | some (true, s1) => f env s1
  | some (false, s1) => g env s1
theorem je_if (ht : JT X c g) (ha : JE X a fa) (hb : JE X b fb) : JE X (.IfExp c a b pos) (fIf g fa fb) :=
  ⟨peW (pe_ifExp ht.p ha.p hb.p) fun σ H Q ⟨F, env, s, d, s', R, e, q⟩ => by
    unfold fIf at e
    split at e
    · cases e
    · rename_i s1 e1
      exact ⟨F, env, s, true, s1, R, e1, fun H1 x1 R1 => iteT ⟨F, env, s1, d, s', R1, e, fun w H2 x2 R2 d2 => q w H2 (x1.trans x2) R2 d2⟩⟩
    · rename_i s1 e1
      exact ⟨F, env, s, false, s1, R, e1, fun H1 x1 R1 => iteF ⟨F, env, s1, d, s', R1, e, fun w H2 x2 R2 d2 => q w H2 (x1.trans x2) R2 d2⟩⟩⟩

/-! ### calls of built-ins -/
theorem je_callB {id : String} {r : List V → Hp → VK → Prop} {h : List D → Option D} {x : Str} {fr : FA} (hc : CallR X (.builtin id) r) (o : OpN X.K r h) (hg : Gl X x) (hm : X.mg x = none) (hv : bootBuiltins x = some (.builtin id)) (ha : JA X (e :: es) fr)
    (hn : x ≠ "__name__" := by decide) (hdb : (x == ("__debug__" : Str)) = false := by decide) (he : starEach (e :: es) X.env = (false, eval e X.env) :: starEach es X.env := by rfl) (hpl : (backTo pos (starEach es X.env)).any (·.1) = false := by rfl) :
    JE X (.Call (.Name x p) (e :: es) [] pos) (fA1 fr h) :=
  ⟨peW (pe_callB hc hg hm hv ha.p hn hdb he hpl) fun σ H Q ⟨F, env, s, d, s', R, e, q⟩ => by
    obtain ⟨xs, e1, e2⟩ := fA1_inv e
    exact ⟨F, env, s, xs, s', R, e1, fun us H1 x1 R1 d1 => o F env s' σ H1 xs d us Q R1 d1 e2 fun w H2 sm dw => q w H2 (x1.trans (Same.ext sm)) (R1.same sm) dw⟩⟩
theorem je_callTy {T : String} {r : List V → Hp → VK → Prop} {h : List D → Option D} {x : Str} {fr : FA} (hc : CallR X (.type T) r) (o : OpN X.K r h) (hg : Gl X x) (hm : X.mg x = none) (hv : bootBuiltins x = some (.type T)) (ha : JA X (e :: es) fr)
    (hn : x ≠ "__name__" := by decide) (hdb : (x == ("__debug__" : Str)) = false := by decide) (he : starEach (e :: es) X.env = (false, eval e X.env) :: starEach es X.env := by rfl) (hpl : (backTo pos (starEach es X.env)).any (·.1) = false := by rfl) :
    JE X (.Call (.Name x p) (e :: es) [] pos) (fA1 fr h) :=
  ⟨peW (pe_callTy hc hg hm hv ha.p hn hdb he hpl) fun σ H Q ⟨F, env, s, d, s', R, e, q⟩ => by
    obtain ⟨xs, e1, e2⟩ := fA1_inv e
    exact ⟨F, env, s, xs, s', R, e1, fun us H1 x1 R1 d1 => o F env s' σ H1 xs d us Q R1 d1 e2 fun w H2 sm dw => q w H2 (x1.trans (Same.ext sm)) (R1.same sm) dw⟩⟩
/-- a name that the top binds to a built-in (math.gcd) -/
theorem je_callF {id : String} {r : List V → Hp → VK → Prop} {h : List D → Option D} {x : Str} {fr : FA} (hc : CallR X (.builtin id) r) (o : OpN X.K r h) (hg : Gl X x) (hm : X.mg x = some (.builtin id)) (ha : JA X (e :: es) fr)
    (hdb : (x == ("__debug__" : Str)) = false := by decide) (he : starEach (e :: es) X.env = (false, eval e X.env) :: starEach es X.env := by rfl) (hpl : (backTo pos (starEach es X.env)).any (·.1) = false := by rfl) :
    JE X (.Call (.Name x p) (e :: es) [] pos) (fA1 fr h) :=
  ⟨peW (pe_callBfun hc hg hm ha.p hdb he hpl) fun σ H Q ⟨F, env, s, d, s', R, e, q⟩ => by
    obtain ⟨xs, e1, e2⟩ := fA1_inv e
    exact ⟨F, env, s, xs, s', R, e1, fun us H1 x1 R1 d1 => o F env s' σ H1 xs d us Q R1 d1 e2 fun w H2 sm dw => q w H2 (x1.trans (Same.ext sm)) (R1.same sm) dw⟩⟩

/-! ### calls of defs -/
abbrev Fn := List D → RS → Option (D × RS)
/-- a def's promise: it does what fn says -/
def spF (K : PySem.W.Frag) (n : Nat) (fn : Fn) : Sp := fun vs H Q _ => vs.length = n ∧ ∃ (G : Addr → Prop) (r : Option Addr) (ds : List D) (s : RS) (d : D) (s' : RS),
  DRs K r G H ds vs ∧ (∀ a, G a → r ≠ some a) ∧ RowOk K r H s ∧ fn ds s = some (d, s') ∧
  ∀ v H', Ext r H H' → RowOk K r H' s' → DR K r (fun a => (G a ∨ H a = none) ∧ r ≠ some a) H' d v → Q v H'
def fCall (n : Nat) (fr : FA) (fn : Fn) : FE := fun env s => match fr env s with
  | none => none
  | some (xs, s1) => if xs.all D.st = true ∧ xs.length = n then fn xs s1 else none
theorem je_call {k j : Nat} {n : Nat} {fn : Fn} {x : Str} {fr : FA} (c : C8.Cal X.prog X.w X.K X.mg X.base k x (spF X.K n fn) []) (hr : Room j X.A) (hk : k ≤ j) (hg : Gl X x) (ha : JA X (e :: es) fr)
    (hdb : (x == ("__debug__" : Str)) = false := by decide) (he : starEach (e :: es) X.env = (false, eval e X.env) :: starEach es X.env := by rfl) (hpl : (backTo pos (starEach es X.env)).any (·.1) = false := by rfl) :
    JE X (.Call (.Name x p) (e :: es) [] pos) (fCall n fr fn) :=
  ⟨peW (C8.pe_c c hr hk hg ha.p hdb he hpl) fun σ H Q ⟨F, env, s, d, s', R, h, q⟩ => by
    unfold fCall at h
    split at h
    · cases h
    · rename_i xs s1 e1
      split at h
      · rename_i hst
        refine ⟨F, env, s, xs, s1, R, e1, fun us H1 x1 R1 d1 => ?_⟩
        have d2 := d1.to hst.1
        refine ⟨by rw [List.append_nil, ← d2.length]; exact hst.2, Gd F env σ, F.r, xs, s1, d, s', by rw [List.append_nil]; exact d2, fun a g => g.2.2.1, R1.row, h, fun v H2 x2 ro d3 => ?_⟩
        refine q v H2 (x1.trans x2) (R1.grow x2 ro) (DV.of (DR.mono (G := fun a => (Gd F env σ a ∨ H1 a = none) ∧ F.r ≠ some a) (G' := Gd F env σ) (H := H2) ⟨fun _ _ h _ => h, fun a vs hv g => ⟨hv, ?_⟩⟩ d3))
        rcases g.1 with g1 | g1
        · exact g1
        · exact (R1.new g1).2
      · cases h⟩
end
end DL

namespace DL
open PySem PySem.Spec L2

theorem OpR.or {X : Cx} {f : Value → Value → Sem Value} {r r' : R2} (h : OpR X f r) (h' : OpR X f r') : OpR X f (fun x y H Q => r x y H Q ∨ r' x y H Q) :=
  fun pins s σ H x y v u Q I rx ry q => q.elim (h pins s σ H x y v u Q I rx ry) (h' pins s σ H x y v u Q I rx ry)
theorem CallR.or {X : Cx} {f : Value} {r r' : List V → Hp → VK → Prop} (h : CallR X f r) (h' : CallR X f r') : CallR X f (fun xs H Q => r xs H Q ∨ r' xs H Q) :=
  fun pins s σ H xs us Q I rx q => q.elim (h pins s σ H xs us Q I rx) (h' pins s σ H xs us Q I rx)

/-- lists, both kinds -/
def asL : D → Option (List D)
  | .lst xs => some xs
  | .vw xs => some xs
  | _ => none
theorem DV.lst {K : PySem.W.Frag} {F : Fr} {env : Ev} {σ : L2.St} {H : Hp} {d : D} {xs : List D} {v : V} (h : DV K F env σ H d v) (e : asL d = some xs) : ∃ a vs, v = .ref a ∧ H a = some (.lst vs) ∧ DRs K F.r (Gd F env σ) H xs vs := by
  cases d with
  | lst ys =>
    cases e
    have h' := DV.to h rfl
    unfold DR at h'
    obtain ⟨a, vs, e1, h1, _, h2⟩ := h'
    exact ⟨a, vs, e1, h1, h2⟩
  | vw ys =>
    cases e
    obtain ⟨a, vs, e1, h1, h2, _⟩ := h
    exact ⟨a, vs, e1, h1, h2⟩
  | _ => cases e
theorem DV.tup {K : PySem.W.Frag} {F : Fr} {env : Ev} {σ : L2.St} {H : Hp} {xs : List D} {v : V} (h : DV K F env σ H (.tup xs) v) : ∃ a vs, v = .ref a ∧ SqT K H a vs ∧ DRs K F.r (Gd F env σ) H xs vs := by
  have h' := DV.to h rfl
  unfold DR at h'
  exact h'
theorem DV.mkt {K : PySem.W.Frag} {F : Fr} {env : Ev} {σ : L2.St} {H : Hp} {xs : List D} {a : Addr} {vs : List V} (h1 : SqT K H a vs) (h2 : DRs K F.r (Gd F env σ) H xs vs) : DV K F env σ H (.tup xs) (.ref a) := DV.of (by unfold DR; exact ⟨a, vs, rfl, h1, h2⟩)

/-! ### + - * // % ** -/
def gAdd : D → D → Option D
  | .int i, .int j => some (.int (i + j))
  | .tup xs, .tup ys => if xs.length + ys.length ≤ 1000000 then some (.tup (xs ++ ys)) else none
  | .lst xs, .lst ys => if xs.length + ys.length ≤ 1000000 then some (.lst (xs ++ ys)) else none
  | .vw xs, .lst ys => if xs.length + ys.length ≤ 1000000 then some (.lst (xs ++ ys)) else none
  | .lst xs, .vw ys => if xs.length + ys.length ≤ 1000000 then some (.lst (xs ++ ys)) else none
  | .str x, .str y => if x.length + y.length ≤ 1000000 then some (.str (x ++ y)) else none
  | _, _ => none
def rAddD (K : PySem.W.Frag) : R2 := fun x y H Q => ((rI0 fun i j => .int (i + j)) x y H Q ∨ rCatA K x y H Q) ∨ (rCat x y H Q ∨ ∃ i j, x = .str i ∧ y = .str j ∧ i.length + j.length ≤ sizeLine ∧ Q (.str (i ++ j)) H)
theorem op_addD {X : Cx} : OpR X (binaryOp .Add) (rAddD X.K) := (op_add.or op_catA).or (op_cat.or op_add_str)
theorem cat_run {K : PySem.W.Frag} {F : Fr} {env : Ev} {s : RS} {σ : L2.St} {H : Hp} {x y : D} {xs ys : List D} {u v : V} {Q : VK} (R : Rep K F env s σ H) (dx : DV K F env σ H x u) (dy : DV K F env σ H y v) (hx : asL x = some xs) (hy : asL y = some ys)
    (hl : xs.length + ys.length ≤ 1000000) (q : ∀ w H', Same H H' → DV K F env σ H' (.lst (xs ++ ys)) w → Q w H') : rCat u v H Q := by
  obtain ⟨a, vs, rfl, h1, h2⟩ := dx.lst hx
  obtain ⟨b, ws, rfl, h3, h4⟩ := dy.lst hy
  refine ⟨a, b, vs, ws, rfl, rfl, h1, h3, ?_, fun p n => ?_⟩
  · rw [← h2.length, ← h4.length]; exact le_line hl
  · exact q _ _ (same_upd n) (new_lst R (h2.app h4) n)
theorem o_add {K : PySem.W.Frag} : Op2 K (rAddD K) gAdd := by
  intro F env s σ H x y d u v Q R dx dy e q
  unfold gAdd at e
  split at e
  · cases e
    rw [dx.int, dy.int]
    exact .inl (.inl ⟨_, _, rfl, rfl, q _ H (Same.refl H) DV.mki⟩)
  · split at e
    · rename_i hl
      cases e
      obtain ⟨a, vs, rfl, h1, h2⟩ := dx.tup
      obtain ⟨b, ws, rfl, h3, h4⟩ := dy.tup
      refine .inl (.inr ⟨a, b, vs, ws, rfl, rfl, h1, h3, ?_, fun e => ?_, fun _ e => ?_, fun _ _ p n => ?_⟩)
      · rw [← h2.length, ← h4.length]; exact le_line hl
      · subst e
        exact q _ H (Same.refl H) (.mkt h3 (h2.app h4))
      · subst e
        have h5 := h2.app h4
        rw [List.append_nil] at h5
        exact q _ H (Same.refl H) (.mkt h1 h5)
      · exact q _ _ (same_upd n) (new_tup R (h2.app h4) n)
    · cases e
  · split at e
    · rename_i hl; cases e; exact .inr (.inl (cat_run R dx dy rfl rfl hl q))
    · cases e
  · split at e
    · rename_i hl; cases e; exact .inr (.inl (cat_run R dx dy rfl rfl hl q))
    · cases e
  · split at e
    · rename_i hl; cases e; exact .inr (.inl (cat_run R dx dy rfl rfl hl q))
    · cases e
  · split at e
    · rename_i hl
      cases e
      rw [dx.str, dy.str]
      exact .inr (.inr ⟨_, _, rfl, rfl, le_line hl, q _ H (Same.refl H) DV.mks⟩)
    · cases e
  · cases e
def gI (C : Int → Int → Bool) (f : Int → Int → D) : D → D → Option D
  | .int i, .int j => if C i j = true then some (f i j) else none
  | _, _ => none
theorem o_int {K : PySem.W.Frag} {C : Int → Int → Prop} {c : Int → Int → Bool} {f : Int → Int → V} {g : Int → Int → D} (hc : ∀ i j, c i j = true → C i j) (hg : ∀ (F : Fr) env σ H i j, DV K F env σ H (g i j) (f i j)) : Op2 K (rI C f) (gI c g) := by
  intro F env s σ H x y d u v Q R dx dy e q
  unfold gI at e
  split at e
  · split at e
    · rename_i h
      cases e
      rw [dx.int, dy.int]
      exact ⟨_, _, rfl, rfl, hc _ _ h, q _ H (Same.refl H) (hg ..)⟩
    · cases e
  · cases e
theorem o_int0 {K : PySem.W.Frag} {f : Int → Int → V} {g : Int → Int → D} (hg : ∀ (F : Fr) env σ H i j, DV K F env σ H (g i j) (f i j)) : Op2 K (rI0 f) (gI (fun _ _ => true) g) := by
  intro F env s σ H x y d u v Q R dx dy e q
  unfold gI at e
  split at e
  · rw [if_pos rfl] at e
    cases e
    rw [dx.int, dy.int]
    exact ⟨_, _, rfl, rfl, q _ H (Same.refl H) (hg ..)⟩
  · cases e
def gSub := gI (fun _ _ => true) fun i j => .int (i - j)
theorem o_sub {K : PySem.W.Frag} : Op2 K (rI0 fun i j => .int (i - j)) gSub := o_int0 fun _ _ _ _ _ _ => DV.mki
/-- //: a big division asks for nothing that the module could have changed -/
def Sees (P : Program) (base : Heap) : Prop := base.NoSeer ∧ P.given.tree = none
def PylA (P : Program) (base : Heap) (A : Around) : Prop := Sees P base ∧ A.depth + Builtin.pylongFrames < recursionLimit ∧
  ∃ (A' : Around) (env : Env), A = A'.deeper env ∧ env.scope.isGenerator = false ∧ env.scope.isCoroutine = false ∧ env.builtins = builtinsNs ∧ env.globals = mainGlobals
theorem pylOf {P : Program} {base : Heap} {k n : Nat} {A : Around} {N ps : List Str} {x : Str} {sc : Scope} {f : Addr} {cd : Value} (hS : Sees P base) (hr : Room k (A.deeper (PyProof.Rows.envOfC x sc n f cd))) (S : FnScope N ps sc) (hk : 32 ≤ k := by decide) :
    PylA P base (A.deeper (PyProof.Rows.envOfC x sc n f cd)) :=
  ⟨hS, by have := hr.dp; show _ + 100 < _; omega, A, _, rfl, S.gen, S.co, rfl, rfl⟩
theorem Inv.pyl {X : Cx} {pins : List (Addr × Obj)} {σ : L2.St} {H : Hp} {s : Shared} (h : PylA X.prog X.base X.A) (I : Inv X pins σ H s) : PylongRoom (model X.prog X.w) X.A s := by
  obtain ⟨⟨h1, h2⟩, h3, A', env, h4, h5, h6, h7, h8⟩ := h
  have hf := I.ok.frames
  have : ∃ l, X.A.frames = some (env :: l) := by
    rw [h4] at hf ⊢
    cases q : A'.frames with
    | none =>
      have z : (A'.deeper env).frames = none := by
        show A'.frames.map _ = _
        rw [q]; rfl
      rw [z] at hf; cases hf
    | some l => exact ⟨l, Around.frames_deeper q⟩
  obtain ⟨l, hl⟩ := this
  exact PylongRoom.of (I.ok.mod.nolimit.keeps I.bk) h3 (SeerAt.of (h1.keeps I.bk) h2 hl h5 h6 h7 h8)
def gFdiv := gI (fun _ j => decide (j ≠ 0)) fun i j => .int (i.fdiv j)
theorem op_fdivP {X : Cx} (h : PylA X.prog X.base X.A) : OpR X (binaryOp .FloorDiv) (rI (fun _ j => j ≠ 0) fun i j => .int (i.fdiv j)) := by
  intro pins s σ H x y v u Q I rx ry q
  obtain ⟨i, j, rfl, rfl, hc, q⟩ := q
  obtain ⟨t, rfl⟩ := rx
  obtain ⟨t', rfl⟩ := ry
  exact PyProof.Rows.floordiv_int hc ⟨.int (i.fdiv j), H, I.tok _, ⟨_, rfl⟩, q⟩ (.inr (Inv.pyl h I))
theorem o_fdiv {K : PySem.W.Frag} : Op2 K (rI (fun _ j => j ≠ 0) fun i j => .int (i.fdiv j)) gFdiv := o_int (fun i j h => of_decide_eq_true h) fun _ _ _ _ _ _ => DV.mki
def gMod := gI (fun _ j => decide (j ≠ 0)) fun i j => .int (i.fmod j)
theorem o_mod {K : PySem.W.Frag} : Op2 K (rI (fun _ j => j ≠ 0) fun i j => .int (i.fmod j)) gMod := o_int (fun i j h => of_decide_eq_true h) fun _ _ _ _ _ _ => DV.mki
def gPow := gI (fun i j => decide (0 ≤ j ∧ j ≤ 1000000 ∧ i.natAbs < 2 ^ 64)) fun i j => .int (i ^ j.toNat)
theorem o_pow {K : PySem.W.Frag} : Op2 K (rI CPow fun i j => .int (i ^ j.toNat)) gPow := o_int (fun i j h => show 0 ≤ j ∧ j ≤ 1000000 ∧ i.natAbs < 2 ^ 64 from of_decide_eq_true h) fun _ _ _ _ _ _ => DV.mki
/-- * : ints, a list by an int, a tuple by an int -/
def mulOk (i j : Int) : Bool := decide (i.natAbs.log2 + j.natAbs.log2 < 100000000)
def CMulX (i j : Int) : Prop := mulOk i j = true
theorem CMulX_ok {i j : Int} (h : CMulX i j) : PySem.IntMulOk i j := by
  have b : ∀ x : Int, Builtin.Int.intBits x ≤ x.natAbs.log2 + 1 := fun x => by
    unfold Builtin.Int.intBits
    split <;> omega
  have h1 := b i
  have h2 := b j
  have h3 : i.natAbs.log2 + j.natAbs.log2 < 100000000 := of_decide_eq_true h
  have e : bitsLine = 134217728 := by decide
  unfold PySem.IntMulOk
  intro z
  rw [Bool.and_eq_true] at z
  have z2 := z.2
  unfold Builtin.Int.intTooBig at z2
  have z3 := of_decide_eq_true z2
  rw [e] at z3
  omega
theorem op_mulX {X : Cx} : OpR X (binaryOp .Mult) (rI CMulX fun i j => .int (i * j)) := opI fun _ _ _ _ _ _ _ hc q => PyProof.Rows.mul_int q (CMulX_ok hc)
def gMul : D → D → Option D
  | .int i, .int j => if mulOk i j = true then some (.int (i * j)) else none
  | .lst xs, .int k => if -(2 ^ 62) ≤ k ∧ k ≤ 1000000 ∧ xs.length * k.toNat ≤ 1000000 then some (.lst (List.replicate k.toNat xs).flatten) else none
  | .tup xs, .int k => if xs ≠ [] ∧ 2 ≤ k ∧ k ≤ 1000 ∧ xs.length ≤ 1000 then some (.tup (List.replicate k.toNat xs).flatten) else none
  | _, _ => none
def rMulD (K : PySem.W.Frag) : R2 := fun x y H Q => (rI CMulX fun i j => .int (i * j)) x y H Q ∨ (rRep x y H Q ∨ rRepT K x y H Q)
theorem op_mulD {X : Cx} : OpR X (binaryOp .Mult) (rMulD X.K) := op_mulX.or (op_rep.or op_repT)
theorem DRs.rep {K : PySem.W.Frag} {r : Option Addr} {G : Addr → Prop} {H : Hp} {xs : List D} {vs : List V} (h : DRs K r G H xs vs) : ∀ n : Nat, DRs K r G H (List.replicate n xs).flatten (List.replicate n vs).flatten
  | 0 => .nil
  | n + 1 => by
    rw [List.replicate_succ, List.replicate_succ, List.flatten_cons, List.flatten_cons]
    exact h.app (DRs.rep h n)
theorem o_mul {K : PySem.W.Frag} : Op2 K (rMulD K) gMul := by
  intro F env s σ H x y d u v Q R dx dy e q
  unfold gMul at e
  split at e
  · split at e
    · rename_i h
      cases e
      rw [dx.int, dy.int]
      exact .inl ⟨_, _, rfl, rfl, h, q _ H (Same.refl H) DV.mki⟩
    · cases e
  · split at e
    · rename_i h
      cases e
      rw [dy.int]
      obtain ⟨a, vs, rfl, h1, h2⟩ := dx.lst rfl
      refine .inr (.inl ⟨a, _, vs, rfl, rfl, h1, ?_, ?_, ?_, fun p n => q _ _ (same_upd n) (new_lst R (h2.rep _) n)⟩)
      · have := h.1; omega
      · have := h.2.1; omega
      · rw [← h2.length]; exact le_line h.2.2
    · cases e
  · split at e
    · rename_i h
      cases e
      rw [dy.int]
      obtain ⟨a, vs, rfl, h1, h2⟩ := dx.tup
      refine .inr (.inr ⟨a, _, vs, rfl, rfl, h1, ?_, h.2.1, h.2.2.1, ?_, fun p n => q _ _ (same_upd n) (new_tup R (h2.rep _) n)⟩)
      · intro z
        subst z
        have := h2.length
        exact h.1 (List.length_eq_zero_iff.mp this)
      · rw [← h2.length]; exact h.2.2.2
    · cases e
  · cases e
/-! ### -x -/
def gNeg : D → Option D
  | .int i => some (.int (-i))
  | _ => none
theorem o_neg {K : PySem.W.Frag} : Op1 K (rU fun i => .int (-i)) gNeg := by
  intro F env s σ H x d u Q R dx e q
  cases x <;> try (cases e)
  rw [dx.int]
  exact ⟨_, rfl, q _ H (Same.refl H) DV.mki⟩

/-! ### comparisons -/
def gLt := gI (fun _ _ => true) fun i j => .bl (decide (i < j))
def gLe := gI (fun _ _ => true) fun i j => .bl (decide (i ≤ j))
def gGt := gI (fun _ _ => true) fun i j => .bl (decide (j < i))
def gGe := gI (fun _ _ => true) fun i j => .bl (decide (j ≤ i))
theorem o_lt {K : PySem.W.Frag} : Op2 K (rI0 fun i j => .bl (decide (i < j))) gLt := o_int0 fun _ _ _ _ _ _ => DV.mkb
theorem o_le {K : PySem.W.Frag} : Op2 K (rI0 fun i j => .bl (decide (i ≤ j))) gLe := o_int0 fun _ _ _ _ _ _ => DV.mkb
theorem o_gt {K : PySem.W.Frag} : Op2 K (rI0 fun i j => .bl (decide (j < i))) gGt := o_int0 fun _ _ _ _ _ _ => DV.mkb
theorem o_ge {K : PySem.W.Frag} : Op2 K (rI0 fun i j => .bl (decide (j ≤ i))) gGe := o_int0 fun _ _ _ _ _ _ => DV.mkb

mutual
def toPD : D → PyData
  | .non => .none
  | .bl b => .bool b
  | .int i => .int i
  | .str x => .str x
  | .tup xs => .tuple (toPDs xs)
  | .lst xs => .list (toPDs xs)
  | .vw xs => .list (toPDs xs)
  | .row => .none
  | .ty _ => .none
def toPDs : List D → List PyData
  | [] => []
  | d :: ds => toPD d :: toPDs ds
end
mutual
/-- no deeper than n, no row within -/
def okD : Nat → D → Bool
  | _, .non => true
  | _, .bl _ => true
  | _, .int _ => true
  | _, .str x => PyData.strOk x
  | 0, .tup _ => false
  | n + 1, .tup xs => okDs n xs
  | 0, .lst _ => false
  | n + 1, .lst xs => okDs n xs
  | 0, .vw _ => false
  | n + 1, .vw xs => okDs n xs
  | _, .row => false
  | _, .ty _ => false
def okDs : Nat → List D → Bool
  | _, [] => true
  | n, d :: ds => okD n d && okDs n ds
end
mutual
theorem lay_ok : ∀ (n : Nat) (d : D), okD n d = true → (toPD d).canLay0 = true ∧ (toPD d).depth ≤ n
  | n, .non, _ => by simp [toPD, PyData.canLay0, PyData.depth]
  | n, .bl _, _ => by simp [toPD, PyData.canLay0, PyData.depth]
  | n, .int _, _ => by simp [toPD, PyData.canLay0, PyData.depth]
  | n, .str x, h => by
    have h' : PyData.strOk x = true := by cases n <;> simpa [okD] using h
    simp [toPD, PyData.canLay0, PyData.depth, h']
  | 0, .tup xs, h => by simp [okD] at h
  | n + 1, .tup xs, h => by
    have h' : okDs n xs = true := by simpa [okD] using h
    have := lay_oks n xs h'
    simp [toPD, PyData.canLay0, PyData.depth, this]
  | 0, .lst xs, h => by simp [okD] at h
  | n + 1, .lst xs, h => by
    have h' : okDs n xs = true := by simpa [okD] using h
    have := lay_oks n xs h'
    simp [toPD, PyData.canLay0, PyData.depth, this]
  | 0, .vw xs, h => by simp [okD] at h
  | n + 1, .vw xs, h => by
    have h' : okDs n xs = true := by simpa [okD] using h
    have := lay_oks n xs h'
    simp [toPD, PyData.canLay0, PyData.depth, this]
  | n, .row, h => by cases n <;> simp [okD] at h
  | n, .ty _, h => by cases n <;> simp [okD] at h
theorem lay_oks : ∀ (n : Nat) (ds : List D), okDs n ds = true → PyData.canLayAll0 (toPDs ds) = true ∧ PyData.depthAll (toPDs ds) ≤ n
  | n, [], _ => by simp [toPDs, PyData.canLayAll0, PyData.depthAll]
  | n, d :: ds, h => by
    have h' : okD n d = true ∧ okDs n ds = true := by simpa [okDs] using h
    have h1 := lay_ok n d h'.1
    have h2 := lay_oks n ds h'.2
    simp [toPDs, PyData.canLayAll0, PyData.depthAll, h1, h2]
    omega
end
theorem shp {d : D} (h : okD 60 d = true) : SeqAt.shaped (toPD d) = true := by
  obtain ⟨h1, h2⟩ := lay_ok 60 d h
  unfold SeqAt.shaped
  rw [h1, decide_eq_true (Nat.le_trans h2 (by decide : 60 ≤ 64))]
  rfl
mutual
theorem DR.dp {K : PySem.W.Frag} {r : Option Addr} {G : Addr → Prop} {H : Hp} : ∀ (n : Nat) (d : D) (v : V), DR K r G H d v → okD n d = true → Dp K H v (toPD d)
  | n, .non, v, h, _ => by unfold DR at h; subst h; exact .non
  | n, .bl _, v, h, _ => by unfold DR at h; subst h; exact .bl _
  | n, .int _, v, h, _ => by unfold DR at h; subst h; exact .int _
  | n, .str x, v, h, _ => by unfold DR at h; subst h; exact .str _
  | 0, .tup xs, v, h, e => by simp [okD] at e
  | n + 1, .tup xs, v, h, e => by
    unfold DR at h
    obtain ⟨a, vs, rfl, h1, h2⟩ := h
    exact .tup h1 (DRs.dp n xs vs h2 (by simpa [okD] using e))
  | 0, .lst xs, v, h, e => by simp [okD] at e
  | n + 1, .lst xs, v, h, e => by
    unfold DR at h
    obtain ⟨a, vs, rfl, h1, _, h2⟩ := h
    exact .lst (.of h1) (DRs.dp n xs vs h2 (by simpa [okD] using e))
  | n, .vw xs, v, h, e => by unfold DR at h; exact h.elim
  | n, .row, v, h, e => by cases n <;> simp [okD] at e
  | n, .ty _, v, h, e => by cases n <;> simp [okD] at e
theorem DRs.dp {K : PySem.W.Frag} {r : Option Addr} {G : Addr → Prop} {H : Hp} : ∀ (n : Nat) (ds : List D) (vs : List V), DRs K r G H ds vs → okDs n ds = true → DpAll K H vs (toPDs ds)
  | n, [], vs, h, _ => by unfold DRs at h; subst h; exact .nil
  | n, d :: ds, vs, h, e => by
    unfold DRs at h
    obtain ⟨v, ws, rfl, h1, h2⟩ := h
    have e' : okD n d = true ∧ okDs n ds = true := by simpa [okDs] using e
    exact .cons (DR.dp n d v h1 e'.1) (DRs.dp n ds ws h2 e'.2)
end
theorem DV.dp {K : PySem.W.Frag} {F : Fr} {env : Ev} {σ : L2.St} {H : Hp} {d : D} {v : V} (h : DV K F env σ H d v) (e : okD 60 d = true) : Dp K H v (toPD d) := by
  cases d with
  | vw xs =>
    obtain ⟨a, vs, rfl, h1, h2, _⟩ := h
    exact .lst (.of h1) (DRs.dp 59 xs vs h2 (by simpa [okD] using e))
  | _ => exact DR.dp (r := F.r) (G := Gd F env σ) 60 _ v h e
def eqD (x y : D) : Bool := PyData.eqv (toPD x) (toPD y)
def gEq (x y : D) : Option D := if okD 60 x = true ∧ okD 60 y = true then some (.bl (eqD x y)) else none
def gNe (x y : D) : Option D := if okD 60 x = true ∧ okD 60 y = true then some (.bl (!eqD x y)) else none
theorem o_eq {K : PySem.W.Frag} : Op2 K (rEqD K) gEq := by
  intro F env s σ H x y d u v Q R dx dy e q
  unfold gEq at e
  split at e
  · rename_i h
    cases e
    exact ⟨_, _, dx.dp h.1, dy.dp h.2, shp h.1, shp h.2, q _ H (Same.refl H) DV.mkb⟩
  · cases e
theorem o_ne {K : PySem.W.Frag} : Op2 K (rNeD K) gNe := by
  intro F env s σ H x y d u v Q R dx dy e q
  unfold gNe at e
  split at e
  · rename_i h
    cases e
    exact ⟨_, _, dx.dp h.1, dy.dp h.2, shp h.1, shp h.2, q _ H (Same.refl H) DV.mkb⟩
  · cases e
/-- is, is not: None; two bools -/
def gIs : D → D → Option D
  | .bl a, .bl b => some (.bl (decide (a = b)))
  | .non, .non => some (.bl true)
  | _, .non => some (.bl false)
  | _, _ => none
def gIsnt : D → D → Option D
  | .bl a, .bl b => some (.bl (!decide (a = b)))
  | .non, .non => some (.bl false)
  | _, .non => some (.bl true)
  | _, _ => none
def rIsD : R2 := fun x y H Q => (y = .non ∧ Q (.bl (decide (x = .non))) H) ∨ rIsB x y H Q
def rIsntD : R2 := fun x y H Q => (y = .non ∧ Q (.bl (!decide (x = .non))) H) ∨ rNotB x y H Q
theorem op_isD {X : Cx} : OpR X (compareOp .Is) rIsD := op_isN.or op_isBl
theorem op_isntD {X : Cx} : OpR X (compareOp .IsNot) rIsntD := op_notN.or op_notBl
def isNon : D → Bool
  | .non => true
  | _ => false
theorem DV.non_iff {K : PySem.W.Frag} {F : Fr} {env : Ev} {σ : L2.St} {H : Hp} {d : D} {v : V} (h : DV K F env σ H d v) : decide (v = .non) = isNon d := by
  cases d with
  | vw xs => obtain ⟨a, vs, rfl, _⟩ := h; rfl
  | non => have h := DV.to h rfl; unfold DR at h; subst h; rfl
  | bl _ => have h := DV.to h rfl; unfold DR at h; subst h; rfl
  | int _ => have h := DV.to h rfl; unfold DR at h; subst h; rfl
  | str _ => have h := DV.to h rfl; unfold DR at h; subst h; rfl
  | tup _ => have h := DV.to h rfl; unfold DR at h; obtain ⟨a, vs, rfl, _⟩ := h; rfl
  | lst _ => have h := DV.to h rfl; unfold DR at h; obtain ⟨a, vs, rfl, _⟩ := h; rfl
  | row => have h := DV.to h rfl; unfold DR at h; obtain ⟨a, rfl, _⟩ := h; rfl
  | ty _ => have h := DV.to h rfl; unfold DR at h; subst h; rfl
theorem DV.non {K : PySem.W.Frag} {F : Fr} {env : Ev} {σ : L2.St} {H : Hp} {v : V} (h : DV K F env σ H .non v) : v = .non := by have := DV.to h rfl; unfold DR at this; exact this
theorem o_is {K : PySem.W.Frag} : Op2 K rIsD gIs := by
  intro F env s σ H x y d u v Q R dx dy e q
  unfold gIs at e
  split at e
  · cases e
    rw [dx.bl, dy.bl]
    exact .inr ⟨_, _, rfl, rfl, q _ H (Same.refl H) DV.mkb⟩
  · cases e
    refine .inl ⟨dy.non, ?_⟩
    rw [dx.non_iff]
    exact q _ H (Same.refl H) DV.mkb
  · rename_i hx
    cases e
    refine .inl ⟨dy.non, ?_⟩
    have z : isNon x = false := by
      cases x <;> first | rfl | exact absurd rfl hx
    rw [dx.non_iff, z]
    exact q _ H (Same.refl H) DV.mkb
  · cases e
theorem o_isnt {K : PySem.W.Frag} : Op2 K rIsntD gIsnt := by
  intro F env s σ H x y d u v Q R dx dy e q
  unfold gIsnt at e
  split at e
  · cases e
    rw [dx.bl, dy.bl]
    exact .inr ⟨_, _, rfl, rfl, q _ H (Same.refl H) DV.mkb⟩
  · cases e
    refine .inl ⟨dy.non, ?_⟩
    rw [dx.non_iff]
    exact q _ H (Same.refl H) DV.mkb
  · rename_i hx
    cases e
    refine .inl ⟨dy.non, ?_⟩
    have z : isNon x = false := by
      cases x <;> first | rfl | exact absurd rfl hx
    rw [dx.non_iff, z]
    exact q _ H (Same.refl H) DV.mkb
  · cases e
/-- in, not in: flat things in a list or a tuple of flat things -/
def flatD : D → Bool
  | .non => true
  | .bl _ => true
  | .int _ => true
  | .str _ => true
  | _ => false
def eqF (y x : D) : Bool := match y, x with
  | .non, .non => true
  | .bl a, .bl b => a == b
  | .bl a, .int b => (if a then 1 else 0) == b
  | .int a, .bl b => a == (if b then 1 else 0)
  | .int a, .int b => a == b
  | .str a, .str b => a == b
  | _, _ => false
theorem DR.flat {K : PySem.W.Frag} {r : Option Addr} {G : Addr → Prop} {H : Hp} {x : D} {u : V} (h : DR K r G H x u) (f : flatD x = true) : flatV u = true := by
  cases x <;> first | exact (Bool.noConfusion f) | (unfold DR at h; subst h; rfl)
theorem eqF_V {K : PySem.W.Frag} {r : Option Addr} {G : Addr → Prop} {H : Hp} {x y : D} {u v : V} (hy : DR K r G H y v) (hx : DR K r G H x u) (fy : flatD y = true) (fx : flatD x = true) : eqV v u = eqF y x := by
  cases y <;> first | exact (Bool.noConfusion fy) | (unfold DR at hy; subst hy; cases x <;> first | exact (Bool.noConfusion fx) | (unfold DR at hx; subst hx; rfl))
theorem DRs.flats {K : PySem.W.Frag} {r : Option Addr} {G : Addr → Prop} {H : Hp} {x : D} {u : V} (hx : DR K r G H x u) (fx : flatD x = true) : ∀ {ys : List D} {vs : List V}, DRs K r G H ys vs → ys.all flatD = true → vs.all flatV = true ∧ inV u vs = ys.any fun y => eqF y x
  | [], vs, h, _ => by unfold DRs at h; subst h; exact ⟨rfl, rfl⟩
  | y :: ys, vs, h, f => by
    unfold DRs at h
    obtain ⟨v, ws, rfl, h1, h2⟩ := h
    rw [List.all_cons, Bool.and_eq_true] at f
    obtain ⟨h3, h4⟩ := DRs.flats hx fx h2 f.2
    refine ⟨by rw [List.all_cons, h1.flat f.1, h3]; rfl, ?_⟩
    unfold inV at h4 ⊢
    rw [List.any_cons, List.any_cons, h4, eqF_V h1 hx f.1 fx]
def gIn (neg : Bool) (x y : D) : Option D := match its y with
  | none => none
  | some ys => if flatD x = true ∧ ys.all flatD = true then some (.bl (if neg then !(ys.any fun z => eqF z x) else ys.any fun z => eqF z x)) else none
theorem flat_st {x : D} (h : flatD x = true) : x.st = true := by cases x <;> first | rfl | cases h
theorem o_in {K : PySem.W.Frag} {neg : Bool} : Op2 K (rIn K neg) (gIn neg) := by
  intro F env s σ H x y d u v Q R dx dy e q
  unfold gIn at e
  split at e
  · cases e
  · rename_i ys ey
    split at e
    · rename_i h
      cases e
      obtain ⟨a, vs, rfl, h1, h2⟩ := DV.its (s := s) dy ey
      have hx := dx.to (flat_st h.1)
      obtain ⟨h3, h4⟩ := h2.flats hx h.1 h.2
      refine ⟨a, vs, rfl, h1.symm, hx.flat h.1, h3, ?_⟩
      rw [h4]
      exact q _ H (Same.refl H) DV.mkb
    · cases e
/-- a deep thing in a list -/
def gInD (neg : Bool) (x y : D) : Option D := match asL y with
  | none => none
  | some ys => if okD 60 x = true ∧ okD 60 (.lst ys) = true then some (.bl (if neg then !(ys.any fun z => eqD z x) else ys.any fun z => eqD z x)) else none

/-! ### [i] -/
def gIx (x y : D) : Option D := match its x, y with
  | some xs, .int i => atI xs i
  | _, _ => none
theorem atI_len {α β : Type} {xs : List α} {ys : List β} {i : Int} {x : α} (hl : xs.length = ys.length) (h : atI xs i = some x) : ∃ j : Nat, xs[j]? = some x ∧ ∀ y, ys[j]? = some y → atI ys i = some y := by
  unfold atI at h ⊢
  cases q : ixN xs.length i with
  | none => rw [q] at h; cases h
  | some j =>
    rw [q] at h
    refine ⟨j, h, fun y hy => ?_⟩
    rw [← hl, q]
    exact hy
theorem DRs.at {K : PySem.W.Frag} {r : Option Addr} {G : Addr → Prop} {H : Hp} {xs : List D} {vs : List V} {i : Int} {d : D} (h : DRs K r G H xs vs) (e : atI xs i = some d) : ∃ v, atI vs i = some v ∧ DR K r G H d v := by
  obtain ⟨j, h1, h2⟩ := atI_len h.length e
  obtain ⟨v, h3, h4⟩ := h.get h1
  exact ⟨v, h2 v h3, h4⟩
theorem o_ix {K : PySem.W.Frag} : Op2 K (rIx K) gIx := by
  intro F env s σ H x y d u v Q R dx dy e q
  unfold gIx at e
  split at e
  · rename_i xs i ex
    obtain ⟨a, vs, rfl, h1, h2⟩ := DV.its (s := s) dx ex
    obtain ⟨w, h3, h4⟩ := h2.at e
    rw [dy.int]
    rcases h1 with h1 | h1
    · exact .inr (.inl ⟨a, vs, i, w, rfl, rfl, h1, h3, q w H (Same.refl H) (DV.of h4)⟩)
    · exact .inl ⟨a, vs, i, w, rfl, rfl, h1, h3, q w H (Same.refl H) (DV.of h4)⟩
  · cases e
section
variable {X : Cx} {K : PySem.W.Frag} {F : Fr} {a b c e : Expr} {es : List Expr} {fa fb fc f : FE} {pos p : Pos}
theorem je_ix (ha : JE X a fa) (hb : JE X b fb) (hs : PlainIx b := by intro _ _; rfl) : JE X (.Subscript a b pos) (f2 fa fb gIx) :=
  ⟨peW (pe_ix ix_seq ha.p hb.p hs) fun _ _ _ h => two_run o_ix h⟩

/-! ### slices -/
theorem SlR.or {r r' : V → Option Int → Option Int → Hp → VK → Prop} (h : SlR X r) (h' : SlR X r') : SlR X (fun x l u H Q => r x l u H Q ∨ r' x l u H Q) :=
  fun pins s σ H x v vl vu lo hi sl Q I rx hs pl pu q => q.elim (h pins s σ H x v vl vu lo hi sl Q I rx hs pl pu) (h' pins s σ H x v vl vu lo hi sl Q I rx hs pl pu)
abbrev FO := Ev → RS → Option (Option Int × RS)
def tO (K : PySem.W.Frag) (f : FO) : TO := fun σ H Q => ∃ (F : Fr) (env : Ev) (s : RS) (i : Option Int) (s' : RS), Rep K F env s σ H ∧ f env s = some (i, s') ∧ ∀ H', Ext F.r H H' → Rep K F env s' σ H' → Q i H'
structure JO (X : Cx) (e : Option Expr) (f : FO) : Prop where
  p : ∃ t, PO X e t ∧ ∀ σ H Q, tO X.K f σ H Q → t σ H Q
def oNone : FO := fun _ s => some (none, s)
def oSome (f : FE) : FO := fun env s => match f env s with
  | some (.int i, s') => some (some i, s')
  | _ => none
theorem jo_none : JO X none oNone := ⟨_, po_none, fun σ H Q ⟨F, env, s, i, s', R, e, q⟩ => by cases e; exact q H Ext.refl R⟩
theorem jo_some (h : JE X e f) : JO X (some e) (oSome f) := ⟨_, po_some h.p, fun σ H Q ⟨F, env, s, i, s', R, e, q⟩ => by
  unfold oSome at e
  split at e
  · rename_i i1 s1 e1
    cases e
    exact ⟨F, env, s, _, s', R, e1, fun v H1 x1 R1 d1 => ⟨i1, d1.int, q H1 x1 R1⟩⟩
  · cases e⟩
def cutD (xs : List D) (lo hi : Option Int) : List D := (xs.drop (HT.sIx xs.length 0 lo)).take (HT.sIx xs.length xs.length hi - HT.sIx xs.length 0 lo)
theorem DRs.cut {K : PySem.W.Frag} {r : Option Addr} {G : Addr → Prop} {H : Hp} {xs : List D} {vs : List V} (h : DRs K r G H xs vs) (lo hi : Option Int) : DRs K r G H (cutD xs lo hi) (cutV vs lo hi) := by
  unfold cutD cutV
  rw [h.length]
  exact (h.drop _).take _
def gCut (x : D) (lo hi : Option Int) : Option D := match x with
  | .tup xs => some (.tup (cutD xs lo hi))
  | .lst xs => some (.lst (cutD xs lo hi))
  | .vw xs => some (.lst (cutD xs lo hi))
  | _ => none
def fCut (f : FE) (l h : FO) : FE := fun env s => match f env s with
  | none => none
  | some (x, s1) => match l env s1 with
    | none => none
    | some (lo, s2) => match h env s2 with
      | none => none
      | some (hi, s3) => match gCut x lo hi with
        | none => none
        | some d => some (d, s3)
theorem cut_all {K : PySem.W.Frag} {r : Option Addr} {G : Addr → Prop} {H : Hp} {xs : List D} {vs : List V} {lo hi : Option Int} (h : DRs K r G H xs vs) (z : HT.sIx vs.length 0 lo = 0 ∧ HT.sIx vs.length vs.length hi = vs.length) : cutD xs lo hi = xs := by
  unfold cutD
  rw [h.length, z.1, z.2, List.drop_zero, Nat.sub_zero, ← h.length, List.take_length]
theorem je_cut {lo hi : Option Expr} {p2 : Pos} {fl fh : FO} (ha : JE X a fa) (hl : JO X lo fl) (hh : JO X hi fh) : JE X (.Subscript a (.Slice lo hi none p2) pos) (fCut fa fl fh) := by
  obtain ⟨tl, pl, wl⟩ := hl.p
  obtain ⟨th, ph, wh⟩ := hh.p
  refine ⟨peW (pe_slice (SlR.or sl_list sl_tupA) ha.p pl ph) fun σ H Q ⟨F, env, s, d, s', R, e, q⟩ => ?_⟩
  unfold fCut at e
  split at e
  · cases e
  · rename_i x s1 e1
    split at e
    · cases e
    · rename_i l s2 e2
      split at e
      · cases e
      · rename_i u s3 e3
        split at e
        · cases e
        · rename_i d' e4
          cases e
          refine ⟨F, env, s, x, s1, R, e1, fun v H1 x1 R1 d1 => wl _ _ _ ⟨F, env, s1, l, s2, R1, e2, fun H2 x2 R2 => wh _ _ _ ⟨F, env, s2, u, s', R2, e3, fun H3 x3 R3 => ?_⟩⟩⟩
          have d3 := (d1.mono R1 x2).mono R2 x3
          have xx := x1.trans (x2.trans x3)
          unfold gCut at e4
          split at e4
          · cases e4
            obtain ⟨a, vs, rfl, h1, h2⟩ := d3.tup
            refine .inr ⟨a, vs, rfl, h1, fun z => ?_, fun z p n => ?_⟩
            · rw [cut_all h2 z] at q
              exact q _ H3 xx R3 (.mkt h1 h2)
            · exact q _ _ (xx.trans (Same.ext (same_upd n))) (R3.same (same_upd n)) (new_tup R3 (h2.cut l u) n)
          · cases e4
            obtain ⟨a, vs, rfl, h1, h2⟩ := d3.lst rfl
            exact .inl ⟨a, vs, rfl, .of h1, fun p n => q _ _ (xx.trans (Same.ext (same_upd n))) (R3.same (same_upd n)) (new_lst R3 (h2.cut l u) n)⟩
          · cases e4
            obtain ⟨a, vs, rfl, h1, h2⟩ := d3.lst rfl
            exact .inl ⟨a, vs, rfl, .of h1, fun p n => q _ _ (xx.trans (Same.ext (same_upd n))) (R3.same (same_upd n)) (new_lst R3 (h2.cut l u) n)⟩
          · cases e4
end

/-! ### len, abs, int, gcd, max, min, tuple, list, all, any -/
def gLen : List D → Option D
  | [x] => match its x with
    | some xs => some (.int xs.length)
    | none => none
  | _ => none
theorem o_len {K : PySem.W.Frag} : OpN K (fun xs H Q => ∃ p ys, xs = [.ref p] ∧ (SqL K H p ys ∨ SqT K H p ys) ∧ Q (.int ys.length) H) gLen := by
  intro F env s σ H xs d us Q R dx e q
  unfold gLen at e
  split at e
  · rename_i x
    split at e
    · rename_i ys ey
      cases e
      obtain ⟨v, ws, rfl, h1, h2⟩ := dx
      have h2 : ws = [] := h2
      subst h2
      obtain ⟨a, vs, rfl, h3, h4⟩ := DV.its (s := s) h1 ey
      refine ⟨a, vs, rfl, h3.symm, ?_⟩
      rw [← h4.length]
      exact q _ H (Same.refl H) DV.mki
    · cases e
  · cases e
theorem DVs.one {K : PySem.W.Frag} {F : Fr} {env : Ev} {σ : L2.St} {H : Hp} {x : D} {us : List V} (h : DVs K F env σ H [x] us) : ∃ u, us = [u] ∧ DV K F env σ H x u := by
  obtain ⟨v, ws, rfl, h1, h2⟩ := h
  have h2 : ws = [] := h2
  subst h2
  exact ⟨v, rfl, h1⟩
theorem DVs.two {K : PySem.W.Frag} {F : Fr} {env : Ev} {σ : L2.St} {H : Hp} {x y : D} {us : List V} (h : DVs K F env σ H [x, y] us) : ∃ u v, us = [u, v] ∧ DV K F env σ H x u ∧ DV K F env σ H y v := by
  obtain ⟨v, ws, rfl, h1, h2⟩ := h
  obtain ⟨w, rfl, h3⟩ := h2.one
  exact ⟨v, w, rfl, h1, h3⟩
def gAbs : List D → Option D
  | [.int i] => some (.int (if i < 0 then -i else i))
  | _ => none
theorem o_abs {K : PySem.W.Frag} : OpN K (fun xs H Q => ∃ i, xs = [.int i] ∧ Q (.int (if i < 0 then -i else i)) H) gAbs := by
  intro F env s σ H xs d us Q R dx e q
  unfold gAbs at e
  split at e
  · cases e
    obtain ⟨u, rfl, h⟩ := dx.one
    rw [h.int]
    exact ⟨_, rfl, q _ H (Same.refl H) DV.mki⟩
  · cases e
def gInt : List D → Option D
  | [.int i] => some (.int i)
  | _ => none
theorem o_intc {K : PySem.W.Frag} : OpN K (fun xs H Q => (∃ i, xs = [.int i] ∧ Q (.int i) H) ∨ ∃ k, xs = [.bl k] ∧ Q (.int (if k then 1 else 0)) H) gInt := by
  intro F env s σ H xs d us Q R dx e q
  unfold gInt at e
  split at e
  · cases e
    obtain ⟨u, rfl, h⟩ := dx.one
    rw [h.int]
    exact .inl ⟨_, rfl, q _ H (Same.refl H) DV.mki⟩
  · cases e
def gGcd : List D → Option D
  | [.int a, .int b] => some (.int ((Nat.gcd a.natAbs b.natAbs : Nat) : Int))
  | _ => none
theorem o_gcd {K : PySem.W.Frag} : OpN K rGcd gGcd := by
  intro F env s σ H xs d us Q R dx e q
  unfold gGcd at e
  split at e
  · cases e
    obtain ⟨u, v, rfl, h, h'⟩ := dx.two
    rw [h.int, h'.int]
    exact ⟨_, _, rfl, q _ H (Same.refl H) DV.mki⟩
  · cases e
def gMax2 : List D → Option D
  | [.int i, .int j] => some (.int (if j > i then j else i))
  | _ => none
theorem o_max2 {K : PySem.W.Frag} : OpN K (fun xs H Q => ∃ i j, xs = [.int i, .int j] ∧ Q (.int (if j > i then j else i)) H) gMax2 := by
  intro F env s σ H xs d us Q R dx e q
  unfold gMax2 at e
  split at e
  · cases e
    obtain ⟨u, v, rfl, h, h'⟩ := dx.two
    rw [h.int, h'.int]
    exact ⟨_, _, rfl, q _ H (Same.refl H) DV.mki⟩
  · cases e
def gMin2 : List D → Option D
  | [.int i, .int j] => some (.int (if j < i then j else i))
  | _ => none
theorem o_min2 {K : PySem.W.Frag} : OpN K (fun xs H Q => ∃ i j, xs = [.int i, .int j] ∧ Q (.int (if j < i then j else i)) H) gMin2 := by
  intro F env s σ H xs d us Q R dx e q
  unfold gMin2 at e
  split at e
  · cases e
    obtain ⟨u, v, rfl, h, h'⟩ := dx.two
    rw [h.int, h'.int]
    exact ⟨_, _, rfl, q _ H (Same.refl H) DV.mki⟩
  · cases e
def gTupOf : List D → Option D
  | [.tup xs] => some (.tup xs)
  | [.lst xs] => some (.tup xs)
  | [.vw xs] => some (.tup xs)
  | _ => none
theorem o_tupof {K : PySem.W.Frag} : OpN K (fun xs H Q => ∃ p ys, xs = [.ref p] ∧ ((SqL K H p ys ∧ ∀ l, H l = none → Q (.ref l) (upd H l (.tup ys))) ∨ (SqT K H p ys ∧ Q (.ref p) H))) gTupOf := by
  intro F env s σ H xs d us Q R dx e q
  unfold gTupOf at e
  split at e
  · cases e
    obtain ⟨u, rfl, h⟩ := dx.one
    obtain ⟨a, vs, rfl, h1, h2⟩ := h.tup
    exact ⟨a, vs, rfl, .inr ⟨h1, q _ H (Same.refl H) (.mkt h1 h2)⟩⟩
  · cases e
    obtain ⟨u, rfl, h⟩ := dx.one
    obtain ⟨a, vs, rfl, h1, h2⟩ := h.lst rfl
    exact ⟨a, vs, rfl, .inl ⟨.of h1, fun p n => q _ _ (same_upd n) (new_tup R h2 n)⟩⟩
  · cases e
    obtain ⟨u, rfl, h⟩ := dx.one
    obtain ⟨a, vs, rfl, h1, h2⟩ := h.lst rfl
    exact ⟨a, vs, rfl, .inl ⟨.of h1, fun p n => q _ _ (same_upd n) (new_tup R h2 n)⟩⟩
  · cases e
def gLstOf : List D → Option D
  | [x] => match its x with
    | some xs => some (.lst xs)
    | none => none
  | _ => none
theorem o_lstof {K : PySem.W.Frag} : OpN K (fun xs H Q => ∃ p ys, xs = [.ref p] ∧ (SqL K H p ys ∨ SqT K H p ys) ∧ ∀ l, H l = none → Q (.ref l) (upd H l (.lst ys))) gLstOf := by
  intro F env s σ H xs d us Q R dx e q
  unfold gLstOf at e
  split at e
  · split at e
    · rename_i ys ey
      cases e
      obtain ⟨u, rfl, h⟩ := dx.one
      obtain ⟨a, vs, rfl, h1, h2⟩ := DV.its (s := s) h ey
      exact ⟨a, vs, rfl, h1.symm, fun p n => q _ _ (same_upd n) (new_lst R h2 n)⟩
    · cases e
  · cases e
def bools : List D → Option (List Bool)
  | [] => some []
  | .bl b :: r => (bools r).map (b :: ·)
  | _ => none
theorem DRs.bools {K : PySem.W.Frag} {r : Option Addr} {G : Addr → Prop} {H : Hp} : ∀ {xs : List D} {vs : List V} {bs : List Bool}, DRs K r G H xs vs → DL.bools xs = some bs → vs = bs.map V.bl
  | [], vs, bs, h, e => by unfold DRs at h; subst h; cases e; rfl
  | x :: xs, vs, bs, h, e => by
    unfold DRs at h
    obtain ⟨v, ws, rfl, h1, h2⟩ := h
    cases x <;> try (simp [DL.bools] at e)
    rename_i b
    obtain ⟨cs, e1, rfl⟩ := e
    have h3 := DRs.bools h2 e1
    unfold DR at h1
    subst h1 h3
    rfl
def gAll : List D → Option D
  | [x] => match asL x with
    | some xs => (match bools xs with
      | some bs => some (.bl (bs.all id))
      | none => none)
    | none => none
  | _ => none
def gAny : List D → Option D
  | [x] => match asL x with
    | some xs => (match bools xs with
      | some bs => some (.bl (bs.any id))
      | none => none)
    | none => none
  | _ => none
theorem o_all {K : PySem.W.Frag} : OpN K (rAll K) gAll := by
  intro F env s σ H xs d us Q R dx e q
  unfold gAll at e
  split at e
  · split at e
    · rename_i ys ey
      split at e
      · rename_i bs eb
        cases e
        obtain ⟨u, rfl, h⟩ := dx.one
        obtain ⟨a, vs, rfl, h1, h2⟩ := h.lst ey
        have h3 := h2.bools eb
        subst h3
        exact ⟨a, bs, rfl, .of h1, q _ H (Same.refl H) DV.mkb⟩
      · cases e
    · cases e
  · cases e
theorem o_any {K : PySem.W.Frag} : OpN K (rAny K) gAny := by
  intro F env s σ H xs d us Q R dx e q
  unfold gAny at e
  split at e
  · split at e
    · rename_i ys ey
      split at e
      · rename_i bs eb
        cases e
        obtain ⟨u, rfl, h⟩ := dx.one
        obtain ⟨a, vs, rfl, h1, h2⟩ := h.lst ey
        have h3 := h2.bools eb
        subst h3
        exact ⟨a, bs, rfl, .of h1, q _ H (Same.refl H) DV.mkb⟩
      · cases e
    · cases e
  · cases e
/-! ### isinstance of a built-in class -/
def kindD : D → Option String
  | .non => some "NoneType"
  | .bl _ => some "bool"
  | .int _ => some "int"
  | .str _ => some "str"
  | .tup _ => some "tuple"
  | .lst _ => some "list"
  | .vw _ => some "list"
  | _ => none
def isK (k T : String) : Option Bool :=
  if T = "int" then some (k == "int" || k == "bool") else if T = "bool" then some (k == "bool") else if T = "str" then some (k == "str") else if T = "tuple" then some (k == "tuple") else if T = "list" then some (k == "list") else none
def gIsI : List D → Option D
  | [x, .ty T] => match kindD x with
    | some k => (match isK k T with
      | some b => some (.bl b)
      | none => none)
    | none => none
  | _ => none
theorem isK_kit {K : PySem.W.Frag} {x : D} {k T : String} {b : Bool} (hk : kindD x = some k) (h : isK k T = some b) : PySem.W.kitOne K (.type k) (.type T) = some b := by
  have hT : T = "int" ∨ T = "bool" ∨ T = "str" ∨ T = "tuple" ∨ T = "list" := by
    unfold isK at h
    repeat' split at h
    all_goals first | (rename_i e; subst e; simp) | cases h | skip
    all_goals simp_all
  rcases hT with rfl | rfl | rfl | rfl | rfl <;> cases x <;> first | (cases hk; cases h; rfl) | cases hk
theorem DV.kind {K : PySem.W.Frag} {F : Fr} {env : Ev} {σ : L2.St} {H : Hp} {x : D} {u : V} {k : String} (h : DV K F env σ H x u) (hk : kindD x = some k) : TyX K H u (.type k) := by
  cases x with
  | non => cases hk; rw [DV.non h]; exact .base .non
  | bl b => cases hk; rw [h.bl]; exact .base (.bl b)
  | int i => cases hk; rw [h.int]; exact .base (.int i)
  | str z => cases hk; rw [h.str]; exact .base (.str z)
  | tup xs =>
    cases hk
    obtain ⟨a, vs, rfl, h1, _⟩ := h.tup
    rcases h1 with (h1 | ⟨o, h1⟩) | ⟨o, its, n, h1, h2, _⟩
    · exact .base (.tup h1)
    · exact .fTuple h1
    · exact .kTuple h1 h2
  | lst xs => cases hk; obtain ⟨a, vs, rfl, h1, _⟩ := DV.lst h rfl; exact .base (.lst h1)
  | vw xs => cases hk; obtain ⟨a, vs, rfl, h1, _⟩ := DV.lst h rfl; exact .base (.lst h1)
  | row => cases hk
  | ty _ => cases hk
theorem o_isi {K : PySem.W.Frag} : OpN K (rIsi K) gIsI := by
  intro F env s σ H xs d us Q R dx e q
  unfold gIsI at e
  split at e
  · rename_i x T
    split at e
    · rename_i k ek
      split at e
      · rename_i b eb
        cases e
        obtain ⟨u, v, rfl, h, h'⟩ := dx.two
        have h2 : v = .ty T := by have := DV.to h' rfl; unfold DR at this; exact this
        subst h2
        exact ⟨u, _, _, _, b, rfl, .ty T, h.kind ek, isK_kit ek eb, q _ H (Same.refl H) DV.mkb⟩
      · cases e
    · cases e
  · cases e
theorem je_ty {X : Cx} {x : Str} {T : String} {pos : Pos} (hg : Gl X x) (hm : X.mg x = none) (hv : bootBuiltins x = some (.type T)) (hn : x ≠ "__name__" := by decide) (hd : (x == ("__debug__" : Str)) = false := by decide) : JE X (.Name x pos) (fC (.ty T)) :=
  ⟨peW (pe_bltn hg hm hv (v := .ty T) rfl hn hd) fun _ _ _ h => fc_run (fun _ _ _ => by unfold DR; rfl) h⟩
end DL

namespace DL
open PySem PySem.Spec L2

section
variable {K : PySem.W.Frag} {F : Fr} {env : Ev} {s s' : RS} {σ : L2.St} {H H' : Hp} {i : Nat} {d : D} {v : V}

/-! ### slots -/
theorem get_set_val {env : Ev} {i j : Nat} {d : D} {xs : List D} (h : (env.set i (.val d))[j]? = some (Sl.own xs)) : j ≠ i ∧ env[j]? = some (Sl.own xs) := by
  by_cases e : i = j
  · subst e
    by_cases hi : i < env.length
    · rw [List.getElem?_set_self hi] at h; cases h
    · rw [List.getElem?_eq_none (by rw [List.length_set]; omega)] at h; cases h
  · rw [List.getElem?_set_ne e] at h
    exact ⟨fun z => e z.symm, h⟩
theorem Gd_val (g : Gd F env σ a) : Gd F (env.set i (.val d)) (σ.set i (some v)) a := by
  refine ⟨g.1, fun j xs e => ?_, g.2.2⟩
  obtain ⟨h1, h2⟩ := get_set_val e
  rw [List.getElem?_set_ne (Ne.symm h1)]
  exact g.2.1 j xs h2
theorem mono_val : Mono (Gd F env σ) H (Gd F (env.set i (.val d)) (σ.set i (some v))) H := ⟨fun _ _ h _ => h, fun _ _ h g => ⟨h, Gd_val g⟩⟩
/-- a name is given a value -/
theorem Rep.put (R : Rep K F env s σ H) (dv : DR K F.r (Gd F env σ) H d v) (hi : i < env.length) : Rep K F (env.set i (.val d)) s (σ.set i (some v)) H := by
  refine ⟨by rw [List.length_set, List.length_set]; exact R.len, R.ext, R.row, R.ban, fun j xs e => ?_, fun j k xs ys a e1 e2 e3 e4 => ?_, fun j e hj => ?_⟩
  · obtain ⟨h1, h2⟩ := get_set_val e
    obtain ⟨a, vs, e1, e2, e3, e4⟩ := R.own j xs h2
    exact ⟨a, vs, by rw [List.getElem?_set_ne (Ne.symm h1)]; exact e1, e2, e3.mono mono_val, e4⟩
  · obtain ⟨h1, h2⟩ := get_set_val e1
    obtain ⟨h3, h4⟩ := get_set_val e2
    rw [List.getElem?_set_ne (Ne.symm h1)] at e3
    rw [List.getElem?_set_ne (Ne.symm h3)] at e4
    exact R.inj j k xs ys a h2 h4 e3 e4
  · by_cases z : i = j
    · subst z
      rw [List.getElem?_set_self hi] at hj
      cases hj
      refine ⟨v, by rw [List.getElem?_set_self (by rw [← R.len]; exact hi)], dv.mono mono_val⟩
    · rw [List.getElem?_set_ne z] at hj
      obtain ⟨w, h1, h2⟩ := R.val j e hj
      exact ⟨w, by rw [List.getElem?_set_ne z]; exact h1, h2.mono mono_val⟩

/-- the frame with one more address that no value may hold -/
def Fr.bar (F : Fr) (p : Addr) : Fr := { F with ban := fun a => F.ban a ∨ a = p }
/-- a new address is barred -/
theorem Gd_bar {p a : Addr} (g : Gd F env σ a) (h : a ≠ p) : Gd (F.bar p) env σ a := ⟨g.1, g.2.1, g.2.2.1, fun z => z.elim g.2.2.2 h⟩
theorem Gd_unbar {p a : Addr} (g : Gd (F.bar p) env σ a) : Gd F env σ a ∧ a ≠ p := ⟨⟨g.1, g.2.1, g.2.2.1, fun z => g.2.2.2 (.inl z)⟩, fun z => g.2.2.2 (.inr z)⟩
theorem mono_bar {p : Addr} (n : H p = none) (x : ∀ a o, H a = some o → H' a = some o) : Mono (Gd F env σ) H (Gd (F.bar p) env σ) H' :=
  ⟨fun _ _ h _ => x _ _ h, fun a xs h g => ⟨x _ _ h, Gd_bar g (ne_of_none h n)⟩⟩
theorem Rep.bar {p : Addr} {o : HO} (R : Rep K F env s σ H) (n : H p = none) : Rep K (F.bar p) env s σ (upd H p o) := by
  have sm := same_upd (o := o) n
  have R1 := R.same sm
  refine ⟨R1.len, R1.ext, R1.row, fun a hb => ?_, fun j xs e => ?_, R1.inj, fun j e hj => ?_⟩
  · rcases hb with hb | rfl
    · exact R1.ban a hb
    · rw [upd_same]; exact fun z => nomatch z
  · obtain ⟨a, vs, e1, e2, e3, e4, e5, e6⟩ := R.own j xs e
    exact ⟨a, vs, e1, sm _ _ e2, e3.mono (mono_bar n sm), e4, e5, fun z => z.elim e6 (ne_of_none e2 n)⟩
  · obtain ⟨w, h1, h2⟩ := R.val j e hj
    exact ⟨w, h1, h2.mono (mono_bar n sm)⟩
theorem get_set_own {env : Ev} {i j : Nat} {zs xs : List D} (h : (env.set i (.own zs))[j]? = some (Sl.own xs)) : (j = i ∧ zs = xs) ∨ (j ≠ i ∧ env[j]? = some (Sl.own xs)) := by
  by_cases e : i = j
  · subst e
    by_cases hi : i < env.length
    · rw [List.getElem?_set_self hi] at h; cases h; exact .inl ⟨rfl, rfl⟩
    · rw [List.getElem?_eq_none (by rw [List.length_set]; omega)] at h; cases h
  · rw [List.getElem?_set_ne e] at h
    exact .inr ⟨fun z => e z.symm, h⟩
theorem Gd_own {p a : Addr} {zs : List D} (g : Gd (F.bar p) env σ a) : Gd F (env.set i (.own zs)) (σ.set i (some (.ref p))) a := by
  obtain ⟨g1, hp⟩ := Gd_unbar g
  refine ⟨g1.1, fun j xs e => ?_, g1.2.2⟩
  rcases get_set_own e with ⟨rfl, rfl⟩ | ⟨h1, h2⟩
  · by_cases hi : j < σ.length
    · rw [List.getElem?_set_self hi]
      intro z
      cases z
      exact hp rfl
    · rw [List.getElem?_eq_none (by rw [List.length_set]; omega)]
      exact fun z => nomatch z
  · rw [List.getElem?_set_ne (Ne.symm h1)]
    exact g1.2.1 j xs h2
theorem mono_own {p : Addr} {zs : List D} : Mono (Gd (F.bar p) env σ) H (Gd F (env.set i (.own zs)) (σ.set i (some (.ref p)))) H := ⟨fun _ _ h _ => h, fun _ _ h g => ⟨h, Gd_own g⟩⟩
/-- a name owns a new list -/
theorem Rep.putOwn {p : Addr} {xs : List D} {vs : List V} (R : Rep K (F.bar p) env s σ H) (hp : H p = some (.lst vs)) (dv : DRs K F.r (Gd (F.bar p) env σ) H xs vs) (hs : F.Hs p = none) (hr : F.r ≠ some p) (hb : ¬ F.ban p) (hi : i < env.length) :
    Rep K F (env.set i (.own xs)) s (σ.set i (some (.ref p))) H := by
  have noP : ∀ (j : Nat) (ys : List D), env[j]? = some (Sl.own ys) → σ[j]? ≠ some (some (V.ref p)) := fun j ys e z => by
    obtain ⟨a, ws, e1, _, _, _, _, e6⟩ := R.own j ys e
    rw [z] at e1; cases e1
    exact e6 (.inr rfl)
  refine ⟨by rw [List.length_set, List.length_set]; exact R.len, R.ext, R.row, fun a z => R.ban a (.inl z), fun j ys e => ?_, fun j k ys zs a e1 e2 e3 e4 => ?_, fun j e hj => ?_⟩
  · rcases get_set_own e with ⟨rfl, rfl⟩ | ⟨h1, h2⟩
    · exact ⟨p, vs, by rw [List.getElem?_set_self (by rw [← R.len]; exact hi)], hp, dv.mono mono_own, hs, hr, hb⟩
    · obtain ⟨a, ws, e1, e2, e3, e4, e5, e6⟩ := R.own j ys h2
      exact ⟨a, ws, by rw [List.getElem?_set_ne (Ne.symm h1)]; exact e1, e2, e3.mono mono_own, e4, e5, fun z => e6 (.inl z)⟩
  · rcases get_set_own e1 with ⟨rfl, rfl⟩ | ⟨h1, h2⟩ <;> rcases get_set_own e2 with ⟨rfl, rfl⟩ | ⟨h3, h4⟩
    · rfl
    · rw [List.getElem?_set_self (by rw [← R.len]; exact hi)] at e3
      cases e3
      rw [List.getElem?_set_ne (Ne.symm h3)] at e4
      exact absurd e4 (noP k zs h4)
    · rw [List.getElem?_set_self (by rw [← R.len]; exact hi)] at e4
      cases e4
      rw [List.getElem?_set_ne (Ne.symm h1)] at e3
      exact absurd e3 (noP j ys h2)
    · rw [List.getElem?_set_ne (Ne.symm h1)] at e3
      rw [List.getElem?_set_ne (Ne.symm h3)] at e4
      exact R.inj j k ys zs a h2 h4 e3 e4
  · by_cases z : i = j
    · subst z
      rw [List.getElem?_set_self hi] at hj
      cases hj
    · rw [List.getElem?_set_ne z] at hj
      obtain ⟨w, h1, h2⟩ := R.val j e hj
      exact ⟨w, by rw [List.getElem?_set_ne z]; exact h1, h2.mono mono_own⟩
end

/-! ### targets -/
abbrev FG := D → Ev → Option Ev
abbrev FGs := List D → Ev → Option Ev
def tG (K : PySem.W.Frag) (ts : List Nat) (h : FG) : TG := fun v σ H Q => ∃ (F : Fr) (env : Ev) (s : RS) (d : D) (env' : Ev), Rep K F env s σ H ∧ DR K F.r (Gd F env σ) H d v ∧ h d env = some env' ∧
  ∀ σ', Rep K F env' s σ' H → (∀ a, Gd F env' σ' a ↔ Gd F env σ a) → (∀ vs, (∀ t ∈ ts, t ∈ vs) → wipe σ' vs = wipe σ vs) → Q σ' H
def tGs (K : PySem.W.Frag) (ts : List Nat) (h : FGs) : TGs := fun ws σ H Q => ∃ (F : Fr) (env : Ev) (s : RS) (ds : List D) (env' : Ev), Rep K F env s σ H ∧ DRs K F.r (Gd F env σ) H ds ws ∧ h ds env = some env' ∧
  ∀ σ', Rep K F env' s σ' H → (∀ a, Gd F env' σ' a ↔ Gd F env σ a) → (∀ vs, (∀ t ∈ ts, t ∈ vs) → wipe σ' vs = wipe σ vs) → Q σ' H
structure JG (X : Cx) (tg : Expr) (ts : List Nat) (h : FG) : Prop where
  p : PG X tg (tG X.K ts h)
structure JGs (X : Cx) (tgs : List Expr) (ts : List Nat) (h : FGs) : Prop where
  p : PGs X tgs (tGs X.K ts h)
theorem pgW {X : Cx} {e : Expr} {t t' : TG} (h : PG X e t) (w : ∀ v σ H Q, t' v σ H Q → t v σ H Q) : PG X e t' := ⟨fun pins s σ H v u Q I r q => h.run pins s σ H v u Q I r (w _ _ _ _ q)⟩
theorem pgsW {X : Cx} {es : List Expr} {t t' : TGs} (h : PGs X es t) (w : ∀ v σ H Q, t' v σ H Q → t v σ H Q) : PGs X es t' := ⟨fun pins s σ H vs us Q I r q => h.run pins s σ H vs us Q I r (w _ _ _ _ q)⟩
theorem wipe_set {σ : L2.St} {i : Nat} {x : Option V} : ∀ {vs : List Nat}, i ∈ vs → wipe (σ.set i x) vs = wipe σ vs
  | v :: vs, h => by
    unfold wipe
    by_cases e : i ∈ vs
    · rw [wipe_set e]
    · have e2 : i = v := (List.mem_cons.mp h).resolve_right e
      subst e2
      have key : ∀ (us : List Nat), i ∉ us → wipe (σ.set i x) us = (wipe σ us).set i x := by
        intro us
        induction us with
        | nil => intro _; rfl
        | cons u us ih =>
          intro hu
          unfold wipe
          rw [ih (fun z => hu (List.mem_cons_of_mem _ z)), List.set_comm]
          exact fun z => hu (z ▸ List.mem_cons_self)
      rw [key vs e, List.set_set]
def notOwn : Option Sl → Bool
  | some (.own _) => false
  | _ => true
def hName (i : Nat) : FG := fun d env => if i < env.length ∧ notOwn env[i]? = true then some (env.set i (.val d)) else none
theorem mono_iff {F : Fr} {env env' : Ev} {σ σ' : L2.St} {H : Hp} (h : ∀ a, Gd F env' σ' a ↔ Gd F env σ a) : Mono (Gd F env σ) H (Gd F env' σ') H := ⟨fun _ _ h _ => h, fun a _ e g => ⟨e, (h a).2 g⟩⟩
theorem Gd_val_iff {F : Fr} {env : Ev} {σ : L2.St} {i : Nat} {d : D} {v : V} {a : Addr} (n : notOwn env[i]? = true) : Gd F (env.set i (.val d)) (σ.set i (some v)) a ↔ Gd F env σ a := by
  refine ⟨fun g => ⟨g.1, fun j xs e => ?_, g.2.2⟩, Gd_val⟩
  have hj : i ≠ j := fun z => by
    subst z
    rw [e] at n; cases n
  have h1 := g.2.1 j xs (by rw [List.getElem?_set_ne hj]; exact e)
  rw [List.getElem?_set_ne hj] at h1
  exact h1
def hNil : FGs := fun ds env => match ds with
  | [] => some env
  | _ => none
def hCons (h : FG) (k : FGs) : FGs := fun ds env => match ds with
  | d :: r => (match h d env with
    | some env1 => k r env1
    | none => none)
  | [] => none
def hTup (k : FGs) : FG := fun d env => match d with
  | .tup xs => k xs env
  | _ => none
section
variable {X : Cx} {pos : Pos}
theorem jg_name (i : Nat) {x : Str} (hN : X.N.Nodup) (hi : X.N[i]? = some x := by rfl) (hx : Loc X.env.scope x := by first | exact Or.inl rfl | exact Or.inr rfl) (hf : X.fn x = true ∨ X.env.scope.names.lookup x = some .local := by first | exact .inl rfl | exact .inr rfl) : JG X (.Name x pos) [i] (hName i) :=
  ⟨pgW (pg_name hN hi hx hf) fun v σ H Q ⟨F, env, s, d, env', R, dv, e, q⟩ => by
    unfold hName at e
    split at e
    · rename_i hl
      cases e
      exact q _ (R.put dv hl.1) (fun a => Gd_val_iff hl.2) fun vs hv => wipe_set (hv i (by simp))
    · cases e⟩
theorem jgs_nil : JGs X [] [] hNil := ⟨pgsW pgs_nil fun vs σ H Q ⟨F, env, s, ds, env', R, dv, e, q⟩ => by
  unfold hNil at e
  split at e
  · cases e
    unfold DRs at dv
    exact ⟨dv, q σ R (fun _ => Iff.rfl) fun _ _ => rfl⟩
  · cases e⟩
theorem jgs_cons {e : Expr} {es : List Expr} {ts us : List Nat} {h : FG} {k : FGs} (h1 : JG X e ts h) (h2 : JGs X es us k) (hs : (assignEach (e :: es) X.env).map (·.2) = assign e X.env :: (assignEach es X.env).map (·.2) := by rfl) : JGs X (e :: es) (ts ++ us) (hCons h k) :=
  ⟨pgsW (pgs_cons h1.p h2.p hs) fun vs σ H Q ⟨F, env, s, ds, env', R, dv, e, q⟩ => by
    unfold hCons at e
    split at e
    · rename_i d r
      split at e
      · rename_i env1 e1
        unfold DRs at dv
        obtain ⟨v, ws, rfl, h3, h4⟩ := dv
        refine ⟨v, ws, rfl, F, env, s, d, env1, R, h3, e1, fun σ1 R1 m1 w1 => ⟨F, env1, s, r, env', R1, h4.mono (mono_iff m1), e, fun σ2 R2 m2 w2 => q σ2 R2 (fun a => (m2 a).trans (m1 a)) fun vs hv => ?_⟩⟩
        rw [w2 vs fun t ht => hv t (List.mem_append_right _ ht), w1 vs fun t ht => hv t (List.mem_append_left _ ht)]
      · cases e
    · cases e⟩
theorem jg_tup {es : List Expr} {k : Nat} {ts : List Nat} {h : FGs} {n : Nat} (hc : X.calm = true) (hg : JGs X es ts h) (hn : (assignEach es X.env).length = n := by rfl) (hst : (assignEach es X.env).findIdx? (·.1) = none := by rfl)
    (hlen : ∀ ds env env', h ds env = some env' → ds.length = n) : JG X (.Tuple es k pos) ts (hTup h) :=
  ⟨pgW (pg_tup hc hg.p hn hst) fun v σ H Q ⟨F, env, s, d, env', R, dv, e, q⟩ => by
    unfold hTup at e
    split at e
    · rename_i xs
      unfold DR at dv
      obtain ⟨a, vs, rfl, h1, h2⟩ := dv
      exact ⟨a, vs, rfl, h1, by rw [← h2.length]; exact hlen _ _ _ e, F, env, s, xs, env', R, h2, e, q⟩
    · cases e⟩
theorem hNil_len {ds : List D} {env env' : Ev} (e : hNil ds env = some env') : ds.length = 0 := by
  unfold hNil at e
  split at e
  · rfl
  · cases e
theorem hCons_len {h : FG} {k : FGs} {n : Nat} (hk : ∀ ds env env', k ds env = some env' → ds.length = n) (ds : List D) (env env' : Ev) (e : hCons h k ds env = some env') : ds.length = n + 1 := by
  unfold hCons at e
  split at e
  · split at e
    · rw [List.length_cons, hk _ _ _ e]
    · cases e
  · cases e
end

/-! ### new lists -/
abbrev FF := Ev → RS → Option (List D × RS)
def tF (K : PySem.W.Frag) (f : FF) : TE := fun σ H Q => ∃ (F : Fr) (env : Ev) (s : RS) (xs : List D) (s' : RS), Rep K F env s σ H ∧ f env s = some (xs, s') ∧
  ∀ p vs H', Ext F.r H H' → Rep K (F.bar p) env s' σ H' → H' p = some (.lst vs) → DRs K F.r (Gd (F.bar p) env σ) H' xs vs → F.Hs p = none → F.r ≠ some p → ¬ F.ban p → H p = none → Q (.ref p) H'
structure JF (X : Cx) (e : Expr) (f : FF) : Prop where
  p : PE X e (tF X.K f)
theorem Ext.none {K : PySem.W.Frag} {F : Fr} {env : Ev} {s : RS} {σ : L2.St} {H H' : Hp} {p : Addr} (x : Ext F.r H H') (R : Rep K F env s σ H') (n : H' p = Option.none) : H p = Option.none := by
  cases q : H p with
  | none => rfl
  | some o =>
    have := x p o q (R.notRow n)
    rw [n] at this; cases this
theorem fresh_fin {K : PySem.W.Frag} {F : Fr} {env : Ev} {s : RS} {σ : L2.St} {H : Hp} {xs : List D} {vs : List V} {p : Addr} (R : Rep K F env s σ H) (n : H p = none) (dv : DRs K F.r (Gd F env σ) H xs vs) :
    Ext F.r H (upd H p (.lst vs)) ∧ Rep K (F.bar p) env s σ (upd H p (.lst vs)) ∧ (upd H p (.lst vs)) p = some (.lst vs) ∧ DRs K F.r (Gd (F.bar p) env σ) (upd H p (.lst vs)) xs vs ∧ F.Hs p = none ∧ F.r ≠ some p ∧ ¬ F.ban p :=
  ⟨Same.ext (same_upd n), R.bar n, upd_same, dv.mono (mono_bar n (same_upd n)), (R.new n).1, R.notRow n, fun z => R.ban p z n⟩
def ffLst (fr : FA) : FF := fun env s => match fr env s with
  | none => none
  | some (xs, s1) => if xs.all D.st = true ∧ xs.length ≤ 1000000 then some (xs, s1) else none
section
variable {X : Cx} {a b c e : Expr} {es : List Expr} {fa fb fc f : FE} {pos p : Pos}
theorem jf_lst {fr : FA} (h : JA X es fr) : JF X (.List es pos) (ffLst fr) :=
  ⟨peW (pe_lst h.p) fun σ H Q ⟨F, env, s, xs, s', R, e, q⟩ => by
    unfold ffLst at e
    split at e
    · cases e
    · rename_i ys s1 e1
      split at e
      · rename_i hx
        cases e
        refine ⟨F, env, s, xs, s', R, e1, fun vs H1 x1 R1 d1 => ?_⟩
        have d2 := d1.to hx.1
        refine ⟨by rw [← d2.length]; exact le_line hx.2, fun p n => ?_⟩
        obtain ⟨h1, h2, h3, h4, h5⟩ := fresh_fin R1 n d2
        exact q p vs _ (x1.trans h1) h2 h3 h4 h5.1 h5.2.1 h5.2.2 (Ext.none x1 R1 n)
      · cases e⟩
/-- [..] * n -/
def ffRep (fa fb : FE) : FF := fun env s => match fa env s with
  | some (x, s1) => (match asL x, fb env s1 with
    | some xs, some (.int k, s2) => if -(2 ^ 62) ≤ k ∧ k ≤ 1000000 ∧ xs.length * k.toNat ≤ 1000000 then some ((List.replicate k.toNat xs).flatten, s2) else none
    | _, _ => none)
  | none => none
theorem jf_rep (ha : JE X a fa) (hb : JE X b fb) : JF X (.BinOp a .Mult b pos) (ffRep fa fb) :=
  ⟨peW (pe_op op_rep ha.p hb.p) fun σ H Q ⟨F, env, s, xs, s', R, e, q⟩ => by
    unfold ffRep at e
    split at e
    · rename_i x s1 e1
      split at e
      · rename_i ys k s2 ex e2
        split at e
        · rename_i hx
          cases e
          refine ⟨F, env, s, x, s1, R, e1, fun u H1 x1 R1 d1 => ⟨F, env, s1, .int k, s', R1, e2, fun w H2 x2 R2 d2 => ?_⟩⟩
          obtain ⟨l, vs, rfl, h1, h2⟩ := (d1.mono R1 x2).lst ex
          rw [d2.int]
          refine ⟨l, k, vs, rfl, rfl, h1, by have := hx.1; omega, by have := hx.2.1; omega, by rw [← h2.length]; exact le_line hx.2.2, fun p n => ?_⟩
          obtain ⟨h3, h4, h5, h6, h7⟩ := fresh_fin R2 n (h2.rep k.toNat)
          exact q p _ _ (x1.trans (x2.trans h3)) h4 h5 h6 h7.1 h7.2.1 h7.2.2 (Ext.none (x1.trans x2) R2 n)
        · cases e
      · cases e
    · cases e⟩
/-- list(x) -/
def ffOf (fr : FA) : FF := fun env s => match fr env s with
  | some ([x], s1) => (match its x with
    | some xs => some (xs, s1)
    | none => none)
  | _ => none
theorem jf_of {x : Str} {fr : FA} (hg : Gl X x) (hm : X.mg x = none) (hv : bootBuiltins x = some (.type "list")) (ha : JA X (e :: es) fr)
    (hn : x ≠ "__name__" := by decide) (hdb : (x == ("__debug__" : Str)) = false := by decide) (he : starEach (e :: es) X.env = (false, eval e X.env) :: starEach es X.env := by rfl) (hpl : (backTo pos (starEach es X.env)).any (·.1) = false := by rfl) :
    JF X (.Call (.Name x p) (e :: es) [] pos) (ffOf fr) :=
  ⟨peW (pe_callTy call_list_of hg hm hv ha.p hn hdb he hpl) fun σ H Q ⟨F, env, s, xs, s', R, e, q⟩ => by
    unfold ffOf at e
    split at e
    · rename_i x s1 e1
      split at e
      · rename_i ys ey
        cases e
        refine ⟨F, env, s, [x], s', R, e1, fun us H1 x1 R1 d1 => ?_⟩
        obtain ⟨u, rfl, h⟩ := d1.one
        obtain ⟨a, vs, rfl, h1, h2⟩ := DV.its (s := s') h ey
        refine ⟨a, vs, rfl, h1.symm, fun p n => ?_⟩
        obtain ⟨h3, h4, h5, h6, h7⟩ := fresh_fin R1 n h2
        exact q p vs _ (x1.trans h3) h4 h5 h6 h7.1 h7.2.1 h7.2.2 (Ext.none x1 R1 n)
      · cases e
    · cases e⟩
/-- a new list as a value -/
def fFr (f : FF) : FE := fun env s => match f env s with
  | some (xs, s') => some (.lst xs, s')
  | none => none
theorem Rep.unbar {K : PySem.W.Frag} {F : Fr} {env : Ev} {s : RS} {σ : L2.St} {H : Hp} {q : Addr} (R : Rep K (F.bar q) env s σ H) : Rep K F env s σ H := by
  have m : Mono (Gd (F.bar q) env σ) H (Gd F env σ) H := ⟨fun _ _ h _ => h, fun _ _ h g => ⟨h, (Gd_unbar g).1⟩⟩
  refine ⟨R.len, R.ext, R.row, fun a z => R.ban a (.inl z), fun j xs e => ?_, R.inj, fun j e hj => ?_⟩
  · obtain ⟨a, vs, e1, e2, e3, e4, e5, e6⟩ := R.own j xs e
    exact ⟨a, vs, e1, e2, e3.mono m, e4, e5, fun z => e6 (.inl z)⟩
  · obtain ⟨w, h1, h2⟩ := R.val j e hj
    exact ⟨w, h1, h2.mono m⟩
theorem je_fr {ff : FF} (h : JF X e ff) : JE X e (fFr ff) :=
  ⟨peW h.p fun σ H Q ⟨F, env, s, d, s', R, e, q⟩ => by
    unfold fFr at e
    split at e
    · rename_i xs s1 e1
      cases e
      refine ⟨F, env, s, xs, s', R, e1, fun p vs H' x R' hp dv hs hr hb _ => q _ H' x R'.unbar (DV.of ?_)⟩
      unfold DR
      refine ⟨p, vs, rfl, hp, ⟨.inr hs, fun j ys e z => ?_, hr, hb⟩, dv.mono ⟨fun _ _ h _ => h, fun _ _ h g => ⟨h, (Gd_unbar g).1⟩⟩⟩
      obtain ⟨a, ws, e1, _, _, _, _, e6⟩ := R'.own j ys e
      rw [z] at e1; cases e1
      exact e6 (.inr rfl)
    · cases e⟩
end

/-! ### what is walked -/
/-- the flag: a list that a name owns (it must not change meanwhile) -/
abbrev FI := Ev → RS → Option (Bool × List D × RS)
def ItOk (K : PySem.W.Frag) (F : Fr) (env : Ev) (σ : L2.St) (H0 : Hp) (J : It) (vw : Bool) (ds : List D) : Prop :=
  ∀ (Hn : Hp) (G' : Addr → Prop), Mono (Gd F env σ) H0 G' Hn → (vw = true → Ext F.r H0 Hn) →
    (∀ i, i < ds.length → J.go i Hn) ∧ J.stop ds.length Hn ∧ ∀ i x H', i < ds.length → J.yld i Hn x H' → ∃ d, ds[i]? = some d ∧ Same Hn H' ∧ DR K F.r G' H' d x
def tI (K : PySem.W.Frag) (f : FI) : TI := fun σ H Rr => ∃ (F : Fr) (env : Ev) (s : RS) (vw : Bool) (ds : List D) (s' : RS), Rep K F env s σ H ∧ f env s = some (vw, ds, s') ∧
  ∀ J H', Ext F.r H H' → Rep K F env s' σ H' → ItOk K F env σ H' J vw ds → Rr J H'
structure JI (X : Cx) (tg iter : Expr) (f : FI) : Prop where
  p : PI X tg iter (tI X.K f)
theorem piW {X : Cx} {tg e : Expr} {t t' : TI} (h : PI X tg e t) (w : ∀ σ H Q, t' σ H Q → t σ H Q) : PI X tg e t' := ⟨fun pins s σ H Q I q => h.run pins s σ H Q I (w _ _ _ q)⟩
theorem piOr {X : Cx} {tg e : Expr} {t t' : TI} (h : PI X tg e t) (h' : PI X tg e t') : PI X tg e (fun σ H Q => t σ H Q ∨ t' σ H Q) := ⟨fun pins s σ H Q I q => q.elim (h.run pins s σ H Q I) (h'.run pins s σ H Q I)⟩
theorem it_lst {K : PySem.W.Frag} {F : Fr} {env : Ev} {s : RS} {σ : L2.St} {H : Hp} {xs : List D} {a : Addr} {vs : List V} {vw : Bool} (h1 : H a = some (.lst vs)) (h2 : DRs K F.r (Gd F env σ) H xs vs) (hv : vw = true → F.r ≠ some a) (hg : vw = false → Gd F env σ a) : ItOk K F env σ H (Itl K a) vw xs := by
  intro Hn G' m x
  have ha : Hn a = some (.lst vs) := by
    cases vw with
    | true => exact x rfl a _ h1 (hv rfl)
    | false => exact (m.2 a vs h1 (hg rfl)).1
  have h3 := h2.mono m
  have hl := h3.length
  refine ⟨fun i hi => ⟨vs, vs[i]'(by omega), .of ha, by simp [show i < vs.length by omega]⟩, ⟨vs, .of ha, by omega⟩, fun i y H' hi hy => ?_⟩
  obtain ⟨rfl, hy⟩ := hy
  obtain ⟨v, h4, h5⟩ := h3.get (List.getElem?_eq_getElem hi)
  have h6 := hy vs (.of ha)
  rw [h4] at h6
  cases h6
  exact ⟨_, List.getElem?_eq_getElem hi, Same.refl _, h5⟩
theorem it_tup {K : PySem.W.Frag} {F : Fr} {env : Ev} {s : RS} {σ : L2.St} {H : Hp} {xs : List D} {a : Addr} {vs : List V} {vw : Bool} (h1 : SqT K H a vs) (h2 : DRs K F.r (Gd F env σ) H xs vs) : ItOk K F env σ H (Itt K a) vw xs := by
  intro Hn G' m x
  have ha : SqT K Hn a vs := m.sqT h1
  have h3 := h2.mono m
  have hl := h3.length
  refine ⟨fun i hi => ⟨vs, vs[i]'(by omega), ha, by simp [show i < vs.length by omega]⟩, ⟨vs, ha, by omega⟩, fun i y H' hi hy => ?_⟩
  obtain ⟨rfl, hy⟩ := hy
  obtain ⟨v, h4, h5⟩ := h3.get (List.getElem?_eq_getElem hi)
  have h6 := hy vs ha
  rw [h4] at h6
  cases h6
  exact ⟨_, List.getElem?_eq_getElem hi, Same.refl _, h5⟩
/-- a list or a tuple -/
def iSeq (f : FE) : FI := fun env s => match f env s with
  | some (.lst xs, s') => some (false, xs, s')
  | some (.vw xs, s') => some (true, xs, s')
  | some (.tup xs, s') => some (false, xs, s')
  | _ => none
section
variable {X : Cx} {a b c e tg : Expr} {es : List Expr} {fa fb fc f : FE} {pos p : Pos}
theorem ji_seq (h : JE X e f) : JI X tg e (iSeq f) :=
  ⟨piW (piOr (pi_list h.p) (pi_tup h.p)) fun σ H Q ⟨F, env, s, vw, ds, s', R, e, q⟩ => by
    unfold iSeq at e
    split at e
    · rename_i xs s1 e1
      cases e
      refine .inl ⟨F, env, s, .lst ds, s', R, e1, fun v H1 x1 R1 d1 => ?_⟩
      have d2 := DV.to d1 rfl
      unfold DR at d2
      obtain ⟨a, vs, rfl, h1, h2, h3⟩ := d2
      exact ⟨a, rfl, ⟨vs, .of h1⟩, q _ H1 x1 R1 (it_lst (s := s') h1 h3 (fun z => nomatch z) fun _ => h2)⟩
    · rename_i xs s1 e1
      cases e
      refine .inl ⟨F, env, s, .vw ds, s', R, e1, fun v H1 x1 R1 d1 => ?_⟩
      obtain ⟨a, vs, rfl, h1, h2, h3, h4⟩ := d1
      exact ⟨a, rfl, ⟨vs, .of h1⟩, q _ H1 x1 R1 (it_lst (s := s') h1 h2 (fun _ => h4) fun z => nomatch z)⟩
    · rename_i xs s1 e1
      cases e
      refine .inr ⟨F, env, s, .tup ds, s', R, e1, fun v H1 x1 R1 d1 => ?_⟩
      obtain ⟨a, vs, rfl, h1, h3⟩ := d1.tup
      exact ⟨a, rfl, ⟨vs, h1⟩, q _ H1 x1 R1 (it_tup (s := s') h1 h3)⟩
    · cases e⟩
/-- range -/
def rgD (lo : Int) : Nat → List D
  | 0 => []
  | n + 1 => .int lo :: rgD (lo + 1) n
theorem rgD_len : ∀ (n : Nat) (lo : Int), (rgD lo n).length = n
  | 0, _ => rfl
  | n + 1, lo => by unfold rgD; rw [List.length_cons, rgD_len n]
theorem rgD_get : ∀ (n i : Nat) (lo : Int), i < n → (rgD lo n)[i]? = some (.int (lo + i))
  | n + 1, 0, lo, _ => by unfold rgD; simp
  | n + 1, i + 1, lo, h => by
    unfold rgD
    rw [List.getElem?_cons_succ, rgD_get n i (lo + 1) (by omega)]
    congr 2
    omega
theorem it_rng {K : PySem.W.Frag} {F : Fr} {env : Ev} {σ : L2.St} {H : Hp} {lo : Int} {n : Nat} {vw : Bool} : ItOk K F env σ H (Itr lo n) vw (rgD lo n) := by
  intro Hn G' m x
  rw [rgD_len]
  refine ⟨fun i hi => hi, Nat.le_refl _, fun i y H' hi hy => ?_⟩
  obtain ⟨rfl, rfl⟩ := hy
  exact ⟨_, rgD_get n i lo hi, Same.refl _, by unfold DR; rfl⟩
def iRg1 (fr : FA) : FI := fun env s => match fr env s with
  | some ([.int j], s') => if -(2 ^ 61) ≤ j ∧ j ≤ 2 ^ 61 then some (false, rgD 0 j.toNat, s') else none
  | _ => none
def iRg2 (fr : FA) : FI := fun env s => match fr env s with
  | some ([.int i, .int j], s') => if -(2 ^ 61) ≤ i ∧ i ≤ 2 ^ 61 ∧ -(2 ^ 61) ≤ j ∧ j ≤ 2 ^ 61 then some (false, rgD i (j - i).toNat, s') else none
  | _ => none
theorem ji_range1 {fr : FA} (hg : Gl X "range") (hm : X.mg "range" = none) (h : JA X [a] fr) (hs : starEach [a] X.env = (false, eval a X.env) :: starEach [] X.env := by rfl) : JI X tg (.Call (.Name "range" p) [a] [] pos) (iRg1 fr) :=
  ⟨piW (pi_range1 hg hm h.p hs) fun σ H Q ⟨F, env, s, vw, ds, s', R, e, q⟩ => by
    unfold iRg1 at e
    split at e
    · rename_i j s1 e1
      split at e
      · rename_i hj
        cases e
        refine ⟨F, env, s, _, s', R, e1, fun vs H1 x1 R1 d1 => ?_⟩
        obtain ⟨u, rfl, h⟩ := d1.one
        rw [h.int]
        exact ⟨j, rfl, by have := hj.1; omega, by have := hj.2; omega, q _ H1 x1 R1 it_rng⟩
      · cases e
    · cases e⟩
theorem ji_range2 {fr : FA} (hg : Gl X "range") (hm : X.mg "range" = none) (h : JA X [a, b] fr) (hs : starEach [a, b] X.env = [(false, eval a X.env), (false, eval b X.env)] := by rfl) (hpl : starEach [b] X.env = [(false, eval b X.env)] := by rfl) : JI X tg (.Call (.Name "range" p) [a, b] [] pos) (iRg2 fr) :=
  ⟨piW (pi_range2 hg hm h.p hs hpl) fun σ H Q ⟨F, env, s, vw, ds, s', R, e, q⟩ => by
    unfold iRg2 at e
    split at e
    · rename_i i j s1 e1
      split at e
      · rename_i hj
        cases e
        refine ⟨F, env, s, _, s', R, e1, fun vs H1 x1 R1 d1 => ?_⟩
        obtain ⟨u, v, rfl, h, h'⟩ := d1.two
        rw [h.int, h'.int]
        exact ⟨i, j, rfl, by obtain ⟨h1, h2, h3, h4⟩ := hj; omega, q _ H1 x1 R1 it_rng⟩
      · cases e
    · cases e⟩
end
end DL

namespace DL
open PySem PySem.Spec L2

/-! ### a list that grows aside -/
section
variable {K : PySem.W.Frag} {F : Fr} {env : Ev} {s s' : RS} {σ : L2.St} {H H' : Hp} {i : Nat} {d : D} {v : V} {p : Addr}
/-- a barred list is written -/
theorem mono_upBar {xs zs : List V} (hb : F.ban p) (hp : H p = some (.lst xs)) : Mono (Gd F env σ) H (Gd F env σ) (upd H p (.lst zs)) := by
  refine ⟨fun a o h n => ?_, fun a ys h g => ⟨?_, g⟩⟩
  · have : a ≠ p := fun z => by subst z; rw [hp] at h; cases h; exact n xs rfl
    rw [upd_ne this]; exact h
  · have : a ≠ p := fun z => by subst z; exact g.2.2.2 hb
    rw [upd_ne this]; exact h
theorem Rep.upBar {xs zs : List V} (R : Rep K F env s σ H) (hb : F.ban p) (hp : H p = some (.lst xs)) (hs : F.Hs p = none) (hr : F.r ≠ some p) : Rep K F env s σ (upd H p (.lst zs)) := by
  have m := mono_upBar (F := F) (env := env) (σ := σ) (zs := zs) hb hp
  refine ⟨R.len, fun a o h n => ?_, fun a ha => ?_, fun a h => ?_, fun j ys e => ?_, R.inj, fun j e hj => ?_⟩
  · have : a ≠ p := fun z => by subst z; rw [hs] at h; cases h
    rw [upd_ne this]; exact R.ext a o h n
  · obtain ⟨q, h1, h2⟩ := R.row a ha
    have : a ≠ p := fun z => hr (z ▸ ha)
    refine ⟨q, by rw [upd_ne this]; exact h1, h2.ext fun o u z => ?_⟩
    have : q ≠ p := fun y => by subst y; rw [hp] at z; cases z
    rw [upd_ne this]; exact z
  · by_cases z : a = p
    · subst z; rw [upd_same]; exact fun z => nomatch z
    · rw [upd_ne z]; exact R.ban a h
  · obtain ⟨a, vs, e1, e2, e3, e4, e5, e6⟩ := R.own j ys e
    have : a ≠ p := fun z => by subst z; exact e6 hb
    exact ⟨a, vs, e1, by rw [upd_ne this]; exact e2, e3.mono m, e4, e5, e6⟩
  · obtain ⟨w, h1, h2⟩ := R.val j e hj
    exact ⟨w, h1, h2.mono m⟩
theorem Rep.growBar {vs : List V} (R : Rep K F env s σ H) (n : H p = none) (x : Ext F.r H H') (hp : H' p = some (.lst vs)) (hr : RowOk K F.r H' s') : Rep K (F.bar p) env s' σ H' := by
  have m : Mono (Gd F env σ) H (Gd (F.bar p) env σ) H' := (R.mono x).trans ⟨fun _ _ h _ => h, fun _ _ h g => ⟨h, g⟩⟩ |> fun y =>
    ⟨y.1, fun a xs h g => ⟨(y.2 a xs h g).1, Gd_bar g (ne_of_none h n)⟩⟩
  have R1 := R.grow x hr
  refine ⟨R1.len, R1.ext, R1.row, fun a hb => ?_, fun j xs e => ?_, R1.inj, fun j e hj => ?_⟩
  · rcases hb with hb | rfl
    · exact R1.ban a hb
    · rw [hp]; exact fun z => nomatch z
  · obtain ⟨a, ws, e1, e2, e3, e4, e5, e6⟩ := R.own j xs e
    exact ⟨a, ws, e1, x _ _ e2 e5, e3.mono m, e4, e5, fun z => z.elim e6 (ne_of_none e2 n)⟩
  · obtain ⟨w, h1, h2⟩ := R.val j e hj
    exact ⟨w, h1, h2.mono m⟩
/-- slots forgotten -/
def wipeE (env : Ev) : List Nat → Ev
  | [] => env
  | v :: vs => (wipeE env vs).set v .no
theorem wipeE_len (env : Ev) : ∀ vs, (wipeE env vs).length = env.length
  | [] => rfl
  | v :: vs => by unfold wipeE; rw [List.length_set, wipeE_len env vs]
theorem wipeE_get {env : Ev} {j : Nat} {sl : Sl} : ∀ {vs : List Nat}, (wipeE env vs)[j]? = some sl → sl ≠ .no → j ∉ vs ∧ env[j]? = some sl
  | [], h, _ => ⟨by simp, h⟩
  | v :: vs, h, hn => by
    unfold wipeE at h
    by_cases e : v = j
    · subst e
      by_cases hv : v < (wipeE env vs).length
      · rw [List.getElem?_set_self hv] at h; cases h; exact absurd rfl hn
      · rw [List.getElem?_eq_none (by rw [List.length_set]; omega)] at h; cases h
    · rw [List.getElem?_set_ne e] at h
      obtain ⟨h1, h2⟩ := wipeE_get h hn
      exact ⟨by simp only [List.mem_cons, not_or]; exact ⟨fun z => e z.symm, h1⟩, h2⟩
theorem wipe_get {σ : L2.St} {j : Nat} : ∀ {vs : List Nat}, j ∉ vs → (wipe σ vs)[j]? = σ[j]?
  | [], _ => rfl
  | v :: vs, h => by
    unfold wipe
    rw [List.getElem?_set_ne (fun z => h (by simp [z])), wipe_get (fun z => h (List.mem_cons_of_mem _ z))]
theorem wipe_mem {σ : L2.St} {j : Nat} : ∀ {vs : List Nat}, j ∈ vs → j < σ.length → (wipe σ vs)[j]? = some none
  | v :: vs, h, hj => by
    unfold wipe
    by_cases e : v = j
    · subst e; rw [List.getElem?_set_self (by rw [wipe_length]; exact hj)]
    · rw [List.getElem?_set_ne e]
      exact wipe_mem ((List.mem_cons.mp h).resolve_left fun z => e z.symm) hj
theorem wipe_idem {σ : L2.St} {vs : List Nat} : wipe (wipe σ vs) vs = wipe σ vs := by
  refine List.ext_getElem? fun j => ?_
  by_cases h : j ∈ vs
  · by_cases hj : j < σ.length
    · rw [wipe_mem h (by rw [wipe_length]; exact hj), wipe_mem h hj]
    · rw [List.getElem?_eq_none (by rw [wipe_length, wipe_length]; omega), List.getElem?_eq_none (by rw [wipe_length]; omega)]
  · rw [wipe_get h]
theorem wipeE_keep {env : Ev} {j : Nat} : ∀ {vs : List Nat}, j ∉ vs → (wipeE env vs)[j]? = env[j]?
  | [], _ => rfl
  | v :: vs, h => by
    unfold wipeE
    rw [List.getElem?_set_ne (fun z => h (by simp [z])), wipeE_keep (fun z => h (List.mem_cons_of_mem _ z))]
theorem Gd_wipe {vs : List Nat} (hv : ∀ j ∈ vs, notOwn env[j]? = true) {a : Addr} : Gd F (wipeE env vs) (wipe σ vs) a ↔ Gd F env σ a := by
  refine ⟨fun g => ⟨g.1, fun j xs e => ?_, g.2.2⟩, fun g => ⟨g.1, fun j xs e => ?_, g.2.2⟩⟩
  · have hj : j ∉ vs := fun z => by have := hv j z; rw [e] at this; cases this
    have h1 := g.2.1 j xs (by rw [wipeE_keep hj]; exact e)
    rw [wipe_get hj] at h1
    exact h1
  · obtain ⟨h1, h2⟩ := wipeE_get e (fun z => nomatch z)
    rw [wipe_get h1]
    exact g.2.1 j xs h2
theorem Rep.wipe {vs : List Nat} (R : Rep K F env s σ H) (hv : ∀ j ∈ vs, notOwn env[j]? = true) : Rep K F (wipeE env vs) s (wipe σ vs) H := by
  have m : Mono (Gd F env σ) H (Gd F (wipeE env vs) (L2.wipe σ vs)) H := mono_iff fun a => Gd_wipe hv
  refine ⟨by rw [wipeE_len, wipe_length]; exact R.len, R.ext, R.row, R.ban, fun j xs e => ?_, fun j k xs ys a e1 e2 e3 e4 => ?_, fun j e hj => ?_⟩
  · obtain ⟨h1, h2⟩ := wipeE_get e (fun z => nomatch z)
    obtain ⟨a, ws, e1, e2, e3, e4⟩ := R.own j xs h2
    exact ⟨a, ws, by rw [wipe_get h1]; exact e1, e2, e3.mono m, e4⟩
  · obtain ⟨h1, h2⟩ := wipeE_get e1 (fun z => nomatch z)
    obtain ⟨h3, h4⟩ := wipeE_get e2 (fun z => nomatch z)
    rw [wipe_get h1] at e3
    rw [wipe_get h3] at e4
    exact R.inj j k xs ys a h2 h4 e3 e4
  · obtain ⟨h1, h2⟩ := wipeE_get hj (fun z => nomatch z)
    obtain ⟨w, h3, h4⟩ := R.val j e h2
    exact ⟨w, by rw [wipe_get h1]; exact h3, h4.mono m⟩
end

/-! ### list comprehensions -/
def tYesF : FT := fun _ s => some (true, s)
def lcGo (h : FG) (t : FT) (fe : FE) (env0 : Ev) : List D → RS → Option (List D × RS)
  | [], s => some ([], s)
  | d :: ds, s => match h d env0 with
    | none => none
    | some env1 => match t env1 s with
      | none => none
      | some (false, s1) => lcGo h t fe env0 ds s1
      | some (true, s1) => match fe env1 s1 with
        | none => none
        | some (y, s2) => if y.st = true then (match lcGo h t fe env0 ds s2 with
            | none => none
            | some (ys, s3) => some (y :: ys, s3)) else none
def ffLc (fi : FI) (h : FG) (t : FT) (fe : FE) (vs : List Nat) : FF := fun env s => match fi env s with
  | none => none
  | some (_, ds, s1) => if vs.all (fun j => notOwn env[j]?) = true ∧ ds.length ≤ 1000000 then lcGo h t fe (wipeE env vs) ds s1 else none
structure JTs (X : Cx) (ifs : List Expr) (f : FT) : Prop where
  p : PTs X ifs (tT X.K f)
theorem jts_nil {X : Cx} : JTs X [] tYesF := ⟨⟨fun pins s σ H Q I ⟨F, env, s0, b, s', R, e, q⟩ => by
  cases e
  exact pts_nil.run pins s σ H Q I (q H Ext.refl R)⟩⟩
theorem jts_one {X : Cx} {c : Expr} {f : FT} (h : JT X c f) : JTs X [c] f := ⟨pts_one h.p⟩
theorem lc_run {K : PySem.W.Frag} {fi : FI} {ts : List Nat} {h : FG} {t : FT} {fe : FE} {vs : List Nat} (hts : ∀ x ∈ ts, x ∈ vs) {σ : L2.St} {H : Hp} {Q : VK} (hw : tF K (ffLc fi h t fe vs) σ H Q) :
    tLc (tI K fi) (tG K ts h) (tT K t) (tE K fe) vs σ H Q := by
  obtain ⟨F, env, s, xs, s', R, e, q⟩ := hw
  unfold ffLc at e
  split at e
  · cases e
  · rename_i vw ds s1 e1
    split at e
    · rename_i hx
      have hv : ∀ j ∈ vs, notOwn env[j]? = true := fun j hj => List.all_eq_true.mp hx.1 j hj
      refine ⟨F, env, s, vw, ds, s1, R, e1, fun J H1 x1 R1 it p n => ?_⟩
      have pr : F.r ≠ some p := R1.notRow n
      have ps : F.Hs p = none := (R1.new n).1
      have pb : ¬ F.ban p := fun z => R1.ban p z n
      have RD := (R1.bar (o := .lst []) n).wipe hv
      refine ⟨fun i m Hn => m = ds.length - i ∧ i ≤ ds.length ∧ Ext F.r H1 Hn ∧ ∃ si ys ws rest, Hn p = some (.lst ws) ∧ DRs K F.r (Gd (F.bar p) (wipeE env vs) (L2.wipe σ vs)) Hn ys ws ∧ ys.length ≤ i ∧
        Rep K (F.bar p) (wipeE env vs) si (L2.wipe σ vs) Hn ∧ lcGo h t fe (wipeE env vs) (ds.drop i) si = some (rest, s') ∧ xs = ys ++ rest,
        ⟨ds.length, by simp, Nat.zero_le _, Same.ext (same_upd n), s1, [], [], xs, upd_same, .nil, Nat.le_refl _, RD, by rw [List.drop_zero]; exact e, rfl⟩, ?_⟩
      rintro i m Hn ⟨rfl, hi, xn, si, ys, ws, rest, hp, dv, hys, Rn, eg, rfl⟩
      have gm : Mono (Gd F env σ) H1 (Gd (F.bar p) (wipeE env vs) (L2.wipe σ vs)) Hn := by
        have m1 := R1.mono xn
        exact ⟨m1.1, fun a zs h g => ⟨(m1.2 a zs h g).1, (Gd_wipe hv).2 (Gd_bar g (ne_of_none h n))⟩⟩
      obtain ⟨igo, istop, iyld⟩ := it Hn _ gm fun _ => xn
      by_cases hlt : i < ds.length
      · refine .inr ⟨igo i hlt, fun Hm => ?_, ?_, ?_⟩
        · exact i + 1 ≤ ds.length ∧ Ext F.r H1 Hm ∧ ∃ si ys' ws rest', Hm p = some (.lst ws) ∧ DRs K F.r (Gd (F.bar p) (wipeE env vs) (L2.wipe σ vs)) Hm ys' ws ∧ ys'.length ≤ i + 1 ∧
            Rep K (F.bar p) (wipeE env vs) si (L2.wipe σ vs) Hm ∧ lcGo h t fe (wipeE env vs) (ds.drop (i + 1)) si = some (rest', s') ∧ ys ++ rest = ys' ++ rest'
        · rintro Hm hm
          exact ⟨ds.length - (i + 1), by omega, rfl, hm⟩
        · intro x H' hy
          obtain ⟨d, hd, sm, dx⟩ := iyld i x H' hlt hy
          have hdrop : ds.drop i = d :: ds.drop (i + 1) := by
            rw [List.drop_eq_getElem_cons hlt]
            congr 1
            rw [List.getElem?_eq_getElem hlt] at hd
            exact Option.some.inj hd
          rw [hdrop] at eg
          unfold lcGo at eg
          split at eg
          · cases eg
          · rename_i env1 e2
            have Rn' := Rn.same sm
            have dv' : DRs K F.r (Gd (F.bar p) (wipeE env vs) (L2.wipe σ vs)) H' ys ws := dv.mono (Rn.mono (Same.ext sm))
            have hp' : H' p = some (.lst ws) := sm _ _ hp
            refine ⟨F.bar p, wipeE env vs, si, d, env1, Rn', dx, e2, fun σ2 R2 gi w2 => ⟨(w2 vs hts).trans wipe_idem, ?_⟩⟩
            split at eg
            · cases eg
            · rename_i s2 e3
              refine ⟨F.bar p, env1, si, false, s2, R2, e3, fun H3 x3 R3 => iteF ⟨hlt, xn.trans ((Same.ext sm).trans x3), s2, ys, ws, rest, x3 _ _ hp' pr, dv'.mono (Rn'.mono x3), by omega, Rn'.grow x3 R3.row, eg, rfl⟩⟩
            · rename_i s2 e3
              refine ⟨F.bar p, env1, si, true, s2, R2, e3, fun H3 x3 R3 => iteT ?_⟩
              split at eg
              · cases eg
              · rename_i y s3 e4
                split at eg
                · rename_i hst
                  split at eg
                  · cases eg
                  · rename_i zs s4 e5
                    cases eg
                    refine ⟨F.bar p, env1, s2, y, s3, R3, e4, fun w H4 x4 R4 d4 => ?_⟩
                    have xx := x3.trans x4
                    have hp4 : H4 p = some (.lst ws) := xx _ _ hp' pr
                    have R4' : Rep K (F.bar p) (wipeE env vs) s3 (L2.wipe σ vs) H4 := Rn'.grow xx R4.row
                    have mu := mono_upBar (F := F.bar p) (env := wipeE env vs) (σ := L2.wipe σ vs) (zs := ws ++ [w]) (.inr rfl) hp4
                    have dy : DR K F.r (Gd (F.bar p) (wipeE env vs) (L2.wipe σ vs)) H4 y w := DR.mono (mono_iff fun a => (gi a).symm) (d4.to hst)
                    have dvs := (dv'.mono (Rn'.mono xx)).app (.cons dy .nil)
                    have hl := dv.length
                    refine ⟨ws, hp4, lt_line (by omega), hlt, ?_, s3, ys ++ [y], ws ++ [w], zs, upd_same, dvs.mono mu, by simp; omega, R4'.upBar (.inr rfl) hp4 ps pr, e5, by simp⟩
                    intro a o ha hr
                    rw [upd_ne (ne_of_none ha n)]
                    exact (xn.trans ((Same.ext sm).trans xx)) a o ha hr
                · cases eg
      · have hie : i = ds.length := by omega
        subst hie
        rw [List.drop_length] at eg
        unfold lcGo at eg
        cases eg
        refine .inl ⟨istop, q p ws Hn (x1.trans xn) (R1.growBar n xn hp Rn.row) hp ?_ ps pr pb (Ext.none x1 R1 n)⟩
        rw [List.append_nil]
        exact dv.mono ⟨fun _ _ h _ => h, fun a _ h g => ⟨h, (Gd_wipe (F := F.bar p) hv).1 g⟩⟩
    · cases e
end DL

namespace DL
open PySem PySem.Spec L2

section
variable {X : Cx} {pos : Pos}
theorem jf_lc {elt tg iter : Expr} {ifs : List Expr} {scope : Scope} {own : List (Str × Nat)} {fi : FI} {ts : List Nat} {h : FG} {t : FT} {fe : FE} (hc : X.calm = true) (hN : X.N.Nodup) (hi : JI X tg iter fi) (ok : BlkOk X.N X.env.scope scope own)
    (hg : ∀ (s : Shared) (H : Hp) (C : Addr) (cl : List (Str × Addr)) (fp : List Addr), JG (X.blk s H scope (compEnvC scope cl C X.env) fp) tg ts h)
    (ht : ∀ (s : Shared) (H : Hp) (C : Addr) (cl : List (Str × Addr)) (fp : List Addr), JTs (X.blk s H scope (compEnvC scope cl C X.env) fp) ifs t)
    (he : ∀ (s : Shared) (H : Hp) (C : Addr) (cl : List (Str × Addr)) (fp : List Addr), JE (X.blk s H scope (compEnvC scope cl C X.env) fp) elt fe)
    (hs : ∀ x, foldedSetIterable iter X.env x = pure x := by intro _; rfl) (hts : ∀ x ∈ ts, x ∈ own.map (·.2) := by decide) :
    JF X (.ListComp elt [⟨tg, iter, ifs, 0⟩] scope pos) (ffLc fi h t fe (own.map (·.2))) :=
  ⟨peW (pe_lc hc hN hi.p ok (fun s H C cl fp => (hg s H C cl fp).p) (fun s H C cl fp => (ht s H C cl fp).p) (fun s H C cl fp => (he s H C cl fp).p) hs) fun _ _ _ hw => lc_run hts hw⟩
end

/-! ### what is stored into names -/
def Fr.barS (F : Fr) : Sl → V → Fr
  | .own _, .ref p => F.bar p
  | _, _ => F
def SlV (K : PySem.W.Frag) (F : Fr) (env : Ev) (σ : L2.St) (H0 H : Hp) : Sl → V → Prop
  | .no, _ => False
  | .val d, v => DR K F.r (Gd F env σ) H d v
  | .own xs, v => ∃ p vs, v = .ref p ∧ H p = some (.lst vs) ∧ DRs K F.r (Gd (F.bar p) env σ) H xs vs ∧ F.Hs p = none ∧ F.r ≠ some p ∧ ¬ F.ban p ∧ H0 p = none
abbrev FX := Ev → RS → Option (Sl × RS)
def tX (K : PySem.W.Frag) (f : FX) : TE := fun σ H Q => ∃ (F : Fr) (env : Ev) (s : RS) (sl : Sl) (s' : RS), Rep K F env s σ H ∧ f env s = some (sl, s') ∧
  ∀ v H', Ext F.r H H' → Rep K (F.barS sl v) env s' σ H' → SlV K F env σ H H' sl v → Q v H'
structure JX (X : Cx) (e : Expr) (f : FX) : Prop where
  p : ∃ t, PE X e t ∧ ∀ σ H Q, tX X.K f σ H Q → t σ H Q
def xVal (f : FE) : FX := fun env s => match f env s with
  | some (d, s') => if d.st = true then some (.val d, s') else none
  | none => none
def xOwn (f : FF) : FX := fun env s => match f env s with
  | some (xs, s') => some (.own xs, s')
  | none => none
theorem jx_val {X : Cx} {e : Expr} {f : FE} (h : JE X e f) : JX X e (xVal f) := ⟨_, h.p, fun σ H Q ⟨F, env, s, sl, s', R, e, q⟩ => by
  unfold xVal at e
  split at e
  · rename_i d s1 e1
    split at e
    · rename_i hst
      cases e
      exact ⟨F, env, s, d, s', R, e1, fun v H' x R' dv => q v H' x R' (dv.to hst)⟩
    · cases e
  · cases e⟩
theorem jx_own {X : Cx} {e : Expr} {f : FF} (h : JF X e f) : JX X e (xOwn f) := ⟨_, h.p, fun σ H Q ⟨F, env, s, sl, s', R, e, q⟩ => by
  unfold xOwn at e
  split at e
  · rename_i xs s1 e1
    cases e
    exact ⟨F, env, s, xs, s', R, e1, fun p vs H' x R' hp dv hs hr hb n => q _ H' x R' ⟨p, vs, rfl, hp, dv, hs, hr, hb, n⟩⟩
  · cases e⟩
section
variable {K : PySem.W.Frag} {F : Fr} {env : Ev} {s s' : RS} {σ : L2.St} {H H0 H' : Hp} {i : Nat} {sl : Sl} {v : V}
theorem Rep.putS (R : Rep K (F.barS sl v) env s σ H) (h : SlV K F env σ H0 H sl v) (hi : i < env.length) : Rep K F (env.set i sl) s (σ.set i (some v)) H ∧ Mono (Gd (F.barS sl v) env σ) H (Gd F (env.set i sl) (σ.set i (some v))) H := by
  cases sl with
  | no => exact h.elim
  | val d => exact ⟨R.put h hi, mono_val⟩
  | own xs =>
    obtain ⟨p, vs, rfl, h1, h2, h3, h4, h5, h6⟩ := h
    exact ⟨R.putOwn h1 h2 h3 h4 h5 hi, mono_own⟩
theorem Rep.base (R : Rep K (F.barS sl v) env s σ H) : Rep K F env s σ H := by
  cases sl <;> cases v <;> first | exact R | exact R.unbar
/-- from the start to behind an item -/
theorem monoS (R : Rep K F env s σ H0) (x : Ext F.r H0 H) (h : SlV K F env σ H0 H sl v) : Mono (Gd F env σ) H0 (Gd (F.barS sl v) env σ) H := by
  have m := R.mono x
  cases sl with
  | no => exact h.elim
  | val d => exact m
  | own xs =>
    obtain ⟨p, vs, rfl, h1, h2, h3, h4, h5, h6⟩ := h
    exact ⟨m.1, fun a zs e g => ⟨(m.2 a zs e g).1, Gd_bar g (ne_of_none e h6)⟩⟩
end
/-- several items, stored from the right -/
def putsE (env : Ev) : List Nat → List Sl → Ev
  | i :: is, sl :: sls => (putsE env is sls).set i sl
  | _, _ => env
def putsV (σ : L2.St) : List Nat → List V → L2.St
  | i :: is, v :: vs => (putsV σ is vs).set i (some v)
  | _, _ => σ
theorem putsE_len (env : Ev) : ∀ (is : List Nat) (sls : List Sl), (putsE env is sls).length = env.length
  | i :: is, sl :: sls => by unfold putsE; rw [List.length_set, putsE_len env is sls]
  | [], _ => rfl
  | _ :: _, [] => rfl
abbrev FXs := Ev → RS → Option (List Sl × RS)
def tXs (K : PySem.W.Frag) (f : FXs) : TA := fun σ H Q => ∃ (F : Fr) (env : Ev) (s : RS) (sls : List Sl) (s' : RS), Rep K F env s σ H ∧ f env s = some (sls, s') ∧
  ∀ vs H', Ext F.r H H' → vs.length = sls.length → (∀ is : List Nat, is.length = sls.length → (∀ i ∈ is, i < env.length) → Rep K F (putsE env is sls) s' (putsV σ is vs) H' ∧ Mono (Gd F env σ) H (Gd F (putsE env is sls) (putsV σ is vs)) H') → Q vs H'
structure JXs (X : Cx) (es : List Expr) (f : FXs) : Prop where
  p : ∃ t, PA X es t ∧ ∀ σ H Q, tXs X.K f σ H Q → t σ H Q
def xsNil : FXs := fun _ s => some ([], s)
def xsCons (f : FX) (g : FXs) : FXs := fun env s => match f env s with
  | none => none
  | some (sl, s1) => match g env s1 with
    | none => none
    | some (sls, s2) => some (sl :: sls, s2)
theorem jxs_nil {X : Cx} : JXs X [] xsNil := ⟨_, pa_nil, fun σ H Q ⟨F, env, s, sls, s', R, e, q⟩ => by
  cases e
  exact q [] H Ext.refl rfl fun is hl _ => by
    cases is with
    | nil => exact ⟨R, .refl⟩
    | cons _ _ => cases hl⟩
theorem jxs_cons {X : Cx} {e : Expr} {es : List Expr} {f : FX} {g : FXs} (h : JX X e f) (h' : JXs X es g) (hs : starEach (e :: es) X.env = (false, eval e X.env) :: starEach es X.env := by rfl) : JXs X (e :: es) (xsCons f g) := by
  obtain ⟨t, pt, wt⟩ := h.p
  obtain ⟨u, pu, wu⟩ := h'.p
  refine ⟨_, pa_cons pt pu hs, fun σ H Q ⟨F, env, s, sls, s', R, e, q⟩ => ?_⟩
  unfold xsCons at e
  split at e
  · cases e
  · rename_i sl s1 e1
    split at e
    · cases e
    · rename_i sls2 s2 e2
      cases e
      refine wt _ _ _ ⟨F, env, s, sl, s1, R, e1, fun v H1 x1 R1 d1 => wu _ _ _ ⟨F.barS sl v, env, s1, sls2, s', R1, e2, fun vs H2 x2 hl k => ?_⟩⟩
      have hr : (F.barS sl v).r = F.r := by cases sl <;> cases v <;> rfl
      rw [hr] at x2
      refine q (v :: vs) H2 (x1.trans x2) (by simp [hl]) fun is hl' hi => ?_
      cases is with
      | nil => cases hl'
      | cons i is =>
        obtain ⟨R2, m2⟩ := k is (by simpa using hl') fun j hj => hi j (List.mem_cons_of_mem _ hj)
        have d2 : SlV X.K F (putsE env is sls2) (putsV σ is vs) H H2 sl v := by
          cases sl with
          | no => exact d1.elim
          | val d => exact DR.mono m2 d1
          | own xs =>
            obtain ⟨p, ws, rfl, h1, h2, h3, h4, h5, h6⟩ := d1
            exact ⟨p, ws, rfl, x2 _ _ h1 h4, h2.mono m2, h3, h4, h5, h6⟩
        obtain ⟨R3, m3⟩ := R2.putS d2 (by rw [putsE_len]; exact hi i List.mem_cons_self)
        exact ⟨R3, (monoS R x1 d1).trans (m2.trans m3)⟩

/-! ### statements -/
inductive Out where
  | nx (env : Ev) (s : RS) | ret (d : D) (s : RS) | brk (env : Ev) (s : RS) | ct (env : Ev) (s : RS) | no
abbrev FS := Ev → RS → Out
/-- what leaves a frame -/
def Gf (F : Fr) (a : Addr) : Prop := (F.G a ∨ F.Hs a = none) ∧ F.r ≠ some a
def Post (K : PySem.W.Frag) (F : Fr) (g0 : Addr → Prop) (H0 : Hp) (D : Ends) : Out → Prop
  | .nx env s => ∀ σ H, Rep K F env s σ H → Mono g0 H0 (Gd F env σ) H → D.nx σ H
  | .brk env s => ∀ σ H, Rep K F env s σ H → Mono g0 H0 (Gd F env σ) H → D.bk σ H
  | .ct env s => ∀ σ H, Rep K F env s σ H → Mono g0 H0 (Gd F env σ) H → D.ct σ H
  | .ret d s => ∀ v env σ H, Rep K F env s σ H → DR K F.r (Gf F) H d v → D.rt v H
  | .no => False
theorem Post.shift {K : PySem.W.Frag} {F : Fr} {g0 g1 : Addr → Prop} {H0 H1 : Hp} {D : Ends} {o : Out} (m : Mono g0 H0 g1 H1) (h : Post K F g0 H0 D o) : Post K F g1 H1 D o := by
  cases o with
  | nx env s => exact fun σ H R m' => h σ H R (m.trans m')
  | brk env s => exact fun σ H R m' => h σ H R (m.trans m')
  | ct env s => exact fun σ H R m' => h σ H R (m.trans m')
  | ret d s => exact h
  | no => exact h
def tS (K : PySem.W.Frag) (g : FS) : TS := fun D σ H => ∃ (F : Fr) (env : Ev) (s : RS), Rep K F env s σ H ∧ Post K F (Gd F env σ) H D (g env s)
structure JS (X : Cx) (st : Stmt) (g : FS) : Prop where
  p : PS X st (tS X.K g)
structure JSs (X : Cx) (st : List Stmt) (g : FS) : Prop where
  p : PSs X st (tS X.K g)
theorem psW {X : Cx} {st : Stmt} {t t' : TS} (h : PS X st t) (w : ∀ D σ H, t' D σ H → t D σ H) : PS X st t' := ⟨fun pins s σ H D I q => h.run pins s σ H D I (w _ _ _ q)⟩
theorem pssW {X : Cx} {st : List Stmt} {t t' : TS} (h : PSs X st t) (w : ∀ D σ H, t' D σ H → t D σ H) : PSs X st t' := ⟨fun pins s σ H D I q => h.run pins s σ H D I (w _ _ _ q)⟩
def sNx : FS := fun env s => .nx env s
def sSeq (g k : FS) : FS := fun env s => match g env s with
  | .nx env' s' => k env' s'
  | o => o
def sNo : FS := fun _ _ => .no
section
variable {X : Cx} {st : Stmt} {rest : List Stmt} {g k : FS} {pos : Pos} {e : Expr}
theorem jss_nil : JSs X [] sNx := ⟨pssW pss_nil fun D σ H ⟨F, env, s, R, q⟩ => q σ H R .refl⟩
theorem jss_one (h : JS X st g) : JSs X [st] g := ⟨pss_one h.p⟩
theorem seq_run {K : PySem.W.Frag} {t u : TS} (ht : ∀ D σ H, tS K g D σ H → t D σ H) {D : Ends} {σ : L2.St} {H : Hp} (h : tS K (sSeq g k) D σ H) (hu : ∀ σ H, tS K k D σ H → u D σ H) : tSeq t u D σ H := by
  obtain ⟨F, env, s, R, q⟩ := h
  refine ht _ _ _ ⟨F, env, s, R, ?_⟩
  unfold sSeq at q
  cases ho : g env s with
  | nx env' s' =>
    rw [ho] at q
    exact fun σ' H' R' m => hu _ _ ⟨F, env', s', R', q.shift m⟩
  | ret d s' => rw [ho] at q; exact q
  | brk env' s' => rw [ho] at q; exact q
  | ct env' s' => rw [ho] at q; exact q
  | no => rw [ho] at q; exact q
theorem jss_cons (h1 : JS X st g) (h2 : JSs X rest k) : JSs X (st :: rest) (sSeq g k) := ⟨pssW (pss_cons h1.p h2.p) fun D σ H h => seq_run (fun _ _ _ h => h) h fun _ _ h => h⟩
/-- what is never reached (raise) -/
theorem js_never : JS X st sNo := ⟨psW ps_never fun D σ H ⟨F, env, s, R, q⟩ => q⟩
theorem js_pass : JS X (.Pass pos) sNx := ⟨psW ps_pass fun D σ H ⟨F, env, s, R, q⟩ => q σ H R .refl⟩
def sBrk : FS := fun env s => .brk env s
theorem js_break : JS X (.Break pos) sBrk := ⟨psW ps_break fun D σ H ⟨F, env, s, R, q⟩ => q σ H R .refl⟩
def sCt : FS := fun env s => .ct env s
theorem js_cont : JS X (.Continue pos) sCt := ⟨psW ps_continue fun D σ H ⟨F, env, s, R, q⟩ => q σ H R .refl⟩
/-- an expression whose value is dropped -/
def sExpr (f : FE) : FS := fun env s => match f env s with
  | some (_, s') => .nx env s'
  | none => .no
theorem js_expr {f : FE} (h : JE X e f) (hs : swapsWith e none pos.line X.env = pure false := by rfl) : JS X (.Expr e pos) (sExpr f) := ⟨psW (ps_expr h.p hs) fun D σ H ⟨F, env, s, R, q⟩ => by
  unfold sExpr at q
  split at q
  · rename_i d s' e1
    exact ⟨F, env, s, d, s', R, e1, fun v H1 x1 R1 d1 => q σ H1 R1 (R.mono x1)⟩
  · exact q.elim⟩
/-- return -/
def D.seal : D → D
  | .vw xs => .lst xs
  | d => d
def sRet (f : FE) : FS := fun env s => match f env s with
  | some (d, s') => .ret d.seal s'
  | none => .no
theorem DV.seal {K : PySem.W.Frag} {F : Fr} {env : Ev} {σ : L2.St} {H : Hp} {d : D} {v : V} (h : DV K F env σ H d v) : DR K F.r (Gf F) H d.seal v := by
  have m : Mono (Gd F env σ) H (Gf F) H := ⟨fun _ _ h _ => h, fun _ _ h g => ⟨h, g.1, g.2.2.1⟩⟩
  cases d with
  | vw xs =>
    obtain ⟨a, vs, rfl, h1, h2, h3, h4⟩ := h
    show DR K F.r (Gf F) H (.lst xs) _
    unfold DR
    exact ⟨a, vs, rfl, h1, ⟨.inr h3, h4⟩, h2.mono m⟩
  | _ => exact DR.mono m (DV.to h rfl)
theorem js_ret {f : FE} (h : JE X e f) : JS X (.Return (some e) pos) (sRet f) := ⟨psW (ps_ret h.p) fun D σ H ⟨F, env, s, R, q⟩ => by
  unfold sRet at q
  split at q
  · rename_i d s' e1
    exact ⟨F, env, s, d, s', R, e1, fun v H1 x1 R1 d1 => q v env σ H1 R1 d1.seal⟩
  · exact q.elim⟩
/-- if -/
def sIf (t : FT) (g k : FS) : FS := fun env s => match t env s with
  | some (true, s') => g env s'
  | some (false, s') => k env s'
  | none => .no
theorem js_if {c : Expr} {a b : List Stmt} {t : FT} (hc : JT X c t) (ha : JSs X a g) (hb : JSs X b k) : JS X (.If c a b pos) (sIf t g k) := ⟨psW (ps_if hc.p ha.p hb.p) fun D σ H ⟨F, env, s, R, q⟩ => by
  unfold sIf at q
  split at q
  · rename_i s' e1
    exact ⟨F, env, s, true, s', R, e1, fun H1 x1 R1 => iteT ⟨F, env, s', R1, q.shift (R.mono x1)⟩⟩
  · rename_i s' e1
    exact ⟨F, env, s, false, s', R, e1, fun H1 x1 R1 => iteF ⟨F, env, s', R1, q.shift (R.mono x1)⟩⟩
  · exact q.elim⟩
/-- x = e -/
def sSet (i : Nat) (f : FX) : FS := fun env s => match f env s with
  | some (sl, s') => if i < env.length then .nx (env.set i sl) s' else .no
  | none => .no
theorem set_run {K : PySem.W.Frag} {i : Nat} {f : FX} {t : TE} (ht : ∀ σ H Q, tX K f σ H Q → t σ H Q) {D : Ends} {σ : L2.St} {H : Hp} (h : tS K (sSet i f) D σ H) : tAsg t (gName i) D σ H := by
  obtain ⟨F, env, s, R, q⟩ := h
  unfold sSet at q
  split at q
  · rename_i sl s' e1
    split at q
    · rename_i hi
      refine ht _ _ _ ⟨F, env, s, sl, s', R, e1, fun v H1 x1 R1 d1 => ?_⟩
      obtain ⟨R2, m2⟩ := R1.putS d1 hi
      exact q _ _ R2 ((monoS R x1 d1).trans m2)
    · exact q.elim
  · exact q.elim
theorem js_set (i : Nat) {x : Str} {f : FX} {pos' : Pos} (hN : X.N.Nodup) (h : JX X e f) (hi : X.N[i]? = some x := by rfl) (hx : Loc X.env.scope x := by first | exact Or.inl rfl | exact Or.inr rfl)
    (hs : swapsWith e (some (.Name x pos')) pos.line X.env = pure false := by rfl) (hf : X.fn x = true ∨ X.env.scope.names.lookup x = some .local := by first | exact .inl rfl | exact .inr rfl) : JS X (.Assign [.Name x pos'] e pos) (sSet i f) := by
  obtain ⟨t, pt, wt⟩ := h.p
  exact ⟨psW (ps_set hN hi hx pt hs hf) fun D σ H h => set_run wt h⟩
/-- y = [..] on one line -/
theorem js_setLc (i : Nat) {elt tg iter : Expr} {ifs : List Expr} {scope : Scope} {own : List (Str × Nat)} {y : Str} {py spos : Pos} {fi : FI} {ts : List Nat} {h : FG} {t : FT} {fe : FE} (lift : FF → FX) (hlift : ∀ K f σ H Q, tX K (lift f) σ H Q → tF K f σ H Q)
    (hc : X.calm = true) (hN : X.N.Nodup) (hsw : swapsWith (.ListComp elt [⟨tg, iter, ifs, 0⟩] scope pos) (some (.Name y py)) spos.line X.env = pure true) (hi : JI X tg iter fi) (ok : BlkOk X.N X.env.scope scope own)
    (hg : ∀ (s : Shared) (H : Hp) (C : Addr) (cl : List (Str × Addr)) (fp : List Addr), JG (X.blk s H scope (compEnvC scope cl C X.env) fp) tg ts h)
    (ht : ∀ (s : Shared) (H : Hp) (C : Addr) (cl : List (Str × Addr)) (fp : List Addr), JTs (X.blk s H scope (compEnvC scope cl C X.env) fp) ifs t)
    (he : ∀ (s : Shared) (H : Hp) (C : Addr) (cl : List (Str × Addr)) (fp : List Addr), JE (X.blk s H scope (compEnvC scope cl C X.env) fp) elt fe)
    (hy : X.N[i]? = some y := by rfl) (hyl : X.env.scope.names.lookup y = some .local := by rfl)
    (hs : ∀ x, foldedSetIterable iter X.env x = pure x := by intro _; rfl) (hts : ∀ x ∈ ts, x ∈ own.map (·.2) := by decide) :
    JS X (.Assign [.Name y py] (.ListComp elt [⟨tg, iter, ifs, 0⟩] scope pos) spos) (sSet i (lift (ffLc fi h t fe (own.map (·.2))))) :=
  ⟨psW (ps_setLc hc hN hy hyl hsw hi.p ok (fun s H C cl fp => (hg s H C cl fp).p) (fun s H C cl fp => (ht s H C cl fp).p) (fun s H C cl fp => (he s H C cl fp).p) hs) fun D σ H hw => set_run (fun _ _ _ hx => lc_run hts (hlift _ _ _ _ _ hx)) hw⟩
theorem lift_own : ∀ K f σ H Q, tX K (xOwn f) σ H Q → tF K f σ H Q := fun K f σ H Q ⟨F, env, s, sl, s', R, e, q⟩ => by
  unfold xOwn at e
  split at e
  · rename_i xs s1 e1
    cases e
    exact ⟨F, env, s, xs, s', R, e1, fun p vs H' x R' hp dv hs hr hb n => q _ H' x R' ⟨p, vs, rfl, hp, dv, hs, hr, hb, n⟩⟩
  · cases e
def xFr (f : FF) : FX := fun env s => match f env s with
  | some (xs, s') => some (.val (.lst xs), s')
  | none => none
theorem lift_val : ∀ K f σ H Q, tX K (xFr f) σ H Q → tF K f σ H Q := fun K f σ H Q ⟨F, env, s, sl, s', R, e, q⟩ => by
  unfold xFr at e
  split at e
  · rename_i xs s1 e1
    cases e
    refine ⟨F, env, s, xs, s', R, e1, fun p vs H' x R' hp dv hs hr hb n => q _ H' x R'.unbar ?_⟩
    show DR K F.r (Gd F env σ) H' (.lst xs) _
    unfold DR
    refine ⟨p, vs, rfl, hp, ⟨.inr hs, fun j ys e z => ?_, hr, hb⟩, dv.mono ⟨fun _ _ h _ => h, fun _ _ h g => ⟨h, (Gd_unbar g).1⟩⟩⟩
    obtain ⟨a, ws, e1, _, _, _, _, e6⟩ := R'.own j ys e
    rw [z] at e1; cases e1
    exact e6 (.inr rfl)
  · cases e
/-- a, b = x, y -/
def sPar (is : List Nat) (f : FXs) : FS := fun env s => match f env s with
  | some (sls, s') => if is.length = sls.length ∧ is.all (fun i => decide (i < env.length)) = true then .nx (putsE env is sls) s' else .no
  | none => .no
theorem js_par2 (i j : Nat) {x y : Str} {a b : Expr} {f : FXs} {px py pt : Pos} {kt k2 pt2} (hc : X.calm = true) (hN : X.N.Nodup) (ha : JXs X [a, b] f) (hi : X.N[i]? = some x := by rfl) (hj : X.N[j]? = some y := by rfl) (hij : i ≠ j := by decide)
    (hx : X.env.scope.names.lookup x = some .local := by rfl) (hy : X.env.scope.names.lookup y = some .local := by rfl)
    (hw : swappedStores [.Tuple [.Name x px, .Name y py] kt pt] (.Tuple [a, b] k2 pt2) X.env = pure (some [x, y]) := by rfl)
    (hs : swapsWithSole [.Tuple [.Name x px, .Name y py] kt pt] (.Tuple [a, b] k2 pt2) pos.line X.env = pure false := by rfl) :
    JS X (.Assign [.Tuple [.Name x px, .Name y py] kt pt] (.Tuple [a, b] k2 pt2) pos) (sPar [i, j] f) := by
  obtain ⟨t, pt, wt⟩ := ha.p
  refine ⟨psW (ps_par hc hN hi hj hij hx hy pt hw hs) fun D σ H ⟨F, env, s, R, q⟩ => ?_⟩
  unfold sPar at q
  split at q
  · rename_i sls s' e1
    split at q
    · rename_i hl
      refine wt _ _ _ ⟨F, env, s, sls, s', R, e1, fun vs H1 x1 hvl k => ?_⟩
      have hlt : ∀ m ∈ [i, j], m < env.length := fun m hm => of_decide_eq_true (List.all_eq_true.mp hl.2 m hm)
      obtain ⟨R2, m2⟩ := k [i, j] hl.1 hlt
      match vs, hvl with
      | [v, w], _ =>
        refine ⟨v, w, rfl, ?_⟩
        have e3 : putsV σ [i, j] [v, w] = (σ.set i (some v)).set j (some w) := by
          show (σ.set j (some w)).set i (some v) = _
          rw [List.set_comm _ _ (Ne.symm hij)]
        rw [e3] at R2 m2
        exact q _ _ R2 m2
      | [], h => have := hl.1; simp at h this; omega
      | [_], h => have := hl.1; simp at h this; omega
      | _ :: _ :: _ :: _, h => have := hl.1; simp at h this; omega
    · exact q.elim
  · exact q.elim
theorem js_par3 (i j l : Nat) {x y z : Str} {a b c : Expr} {f : FXs} {px py pz pt : Pos} {kt k2 pt2} (hc : X.calm = true) (hN : X.N.Nodup) (ha : JXs X [a, b, c] f) (hi : X.N[i]? = some x := by rfl) (hj : X.N[j]? = some y := by rfl) (hl : X.N[l]? = some z := by rfl) (hij : i ≠ j := by decide) (hil : i ≠ l := by decide) (hjl : j ≠ l := by decide)
    (hx : X.env.scope.names.lookup x = some .local := by rfl) (hy : X.env.scope.names.lookup y = some .local := by rfl) (hz : X.env.scope.names.lookup z = some .local := by rfl)
    (hw : swappedStores [.Tuple [.Name x px, .Name y py, .Name z pz] kt pt] (.Tuple [a, b, c] k2 pt2) X.env = pure (some [x, y, z]) := by rfl)
    (hs : swapsWithSole [.Tuple [.Name x px, .Name y py, .Name z pz] kt pt] (.Tuple [a, b, c] k2 pt2) pos.line X.env = pure false := by rfl) :
    JS X (.Assign [.Tuple [.Name x px, .Name y py, .Name z pz] kt pt] (.Tuple [a, b, c] k2 pt2) pos) (sPar [i, j, l] f) := by
  obtain ⟨t, pt, wt⟩ := ha.p
  refine ⟨psW (ps_par3 hc hN hi hj hl hij hil hjl hx hy hz pt hw hs) fun D σ H ⟨F, env, s, R, q⟩ => ?_⟩
  unfold sPar at q
  split at q
  · rename_i sls s' e1
    split at q
    · rename_i hl
      refine wt _ _ _ ⟨F, env, s, sls, s', R, e1, fun vs H1 x1 hvl k => ?_⟩
      have hlt : ∀ m ∈ [i, j, l], m < env.length := fun m hm => of_decide_eq_true (List.all_eq_true.mp hl.2 m hm)
      obtain ⟨R2, m2⟩ := k [i, j, l] hl.1 hlt
      match vs, hvl with
      | [v, w, u], _ =>
        refine ⟨v, w, u, rfl, ?_⟩
        have e3 : putsV σ [i, j, l] [v, w, u] = ((σ.set i (some v)).set j (some w)).set l (some u) := by
          show ((σ.set l (some u)).set j (some w)).set i (some v) = _
          rw [List.set_comm _ _ (Ne.symm hij), List.set_comm _ _ (Ne.symm hil), List.set_comm _ _ (Ne.symm hjl)]
        rw [e3] at R2 m2
        exact q _ _ R2 m2
      | [], h => have := hl.1; simp at h this; omega
      | [_], h => have := hl.1; simp at h this; omega
      | [_, _], h => have := hl.1; simp at h this; omega
      | _ :: _ :: _ :: _ :: _, h => have := hl.1; simp at h this; omega
    · exact q.elim
  · exact q.elim
/-- (a, b, ..) = e -/
def sAsg (f : FE) (h : FG) : FS := fun env s => match f env s with
  | some (d, s') => if d.st = true then (match h d env with
      | some env' => .nx env' s'
      | none => .no) else .no
  | none => .no
theorem js_asg {tg : Expr} {f : FE} {ts : List Nat} {h : FG} (he : JE X e f) (hg : JG X tg ts h) (hs : swapsWithSole [tg] e pos.line X.env = pure false := by rfl) (hw : swappedStores [tg] e X.env = pure none := by rfl)
    (h1 : (assignEach [tg] X.env).map (·.2) = [assign tg X.env] := by rfl) : JS X (.Assign [tg] e pos) (sAsg f h) :=
  ⟨psW (ps_asg he.p hg.p hs hw h1) fun D σ H ⟨F, env, s, R, q⟩ => by
    unfold sAsg at q
    split at q
    · rename_i d s' e1
      split at q
      · rename_i hst
        split at q
        · rename_i env' e2
          refine ⟨F, env, s, d, s', R, e1, fun v H1 x1 R1 d1 => ⟨F, env, s', d, env', R1, d1.to hst, e2, fun σ' R2 m2 _ => q σ' H1 R2 ((R.mono x1).trans (mono_iff m2))⟩⟩
        · exact q.elim
      · exact q.elim
    · exact q.elim⟩
/-- a name's list is given up to be shared -/
def sFrz (i : Nat) : FS := fun env s => match env[i]? with
  | some (.own xs) => .nx (env.set i (.val (.lst xs))) s
  | _ => .no
end
section
variable {K : PySem.W.Frag} {F : Fr} {env : Ev} {s s' : RS} {σ : L2.St} {H H' : Hp} {i : Nat}
theorem Rep.frz {xs : List D} (R : Rep K F env s σ H) (e : env[i]? = some (.own xs)) : Rep K F (env.set i (.val (.lst xs))) s σ H ∧ Mono (Gd F env σ) H (Gd F (env.set i (.val (.lst xs))) σ) H := by
  have hg : ∀ a, Gd F env σ a → Gd F (env.set i (.val (.lst xs))) σ a := fun a g => ⟨g.1, fun j ys ej => g.2.1 j ys (get_set_val ej).2, g.2.2⟩
  have m : Mono (Gd F env σ) H (Gd F (env.set i (.val (.lst xs))) σ) H := ⟨fun _ _ h _ => h, fun a _ h g => ⟨h, hg a g⟩⟩
  have hi : i < env.length := (List.getElem?_eq_some_iff.mp e).1
  refine ⟨⟨by rw [List.length_set]; exact R.len, R.ext, R.row, R.ban, fun j ys ej => ?_, fun j k ys zs a e1 e2 e3 e4 => ?_, fun j d hj => ?_⟩, m⟩
  · obtain ⟨h1, h2⟩ := get_set_val ej
    obtain ⟨a, ws, e1, e2, e3, e4⟩ := R.own j ys h2
    exact ⟨a, ws, e1, e2, e3.mono m, e4⟩
  · exact R.inj j k ys zs a (get_set_val e1).2 (get_set_val e2).2 e3 e4
  · by_cases z : i = j
    · subst z
      rw [List.getElem?_set_self hi] at hj
      cases hj
      obtain ⟨a, ws, e1, e2, e3, e4, e5, e6⟩ := R.own i xs e
      refine ⟨.ref a, e1, ?_⟩
      unfold DR
      refine ⟨a, ws, rfl, e2, ⟨.inr e4, fun j ys ej y => ?_, e5, e6⟩, e3.mono m⟩
      obtain ⟨h1, h2⟩ := get_set_val ej
      exact h1 (R.inj j i ys xs a h2 e y e1)
    · rw [List.getElem?_set_ne z] at hj
      obtain ⟨w, h1, h2⟩ := R.val j d hj
      exact ⟨w, h1, h2.mono m⟩
/-- a name's own list is written -/
theorem Rep.upOwn {xs ys : List D} {a : Addr} {vs ws : List V} (R : Rep K F env s σ H) (e : env[i]? = some (.own xs)) (ea : σ[i]? = some (some (.ref a))) (hp : H a = some (.lst vs)) (hd : DRs K F.r (Gd F env σ) H ys ws) (hs : F.Hs a = none) (hr : F.r ≠ some a) (hb : ¬ F.ban a) :
    Rep K F (env.set i (.own ys)) s σ (upd H a (.lst ws)) ∧ Mono (Gd F env σ) H (Gd F (env.set i (.own ys)) σ) (upd H a (.lst ws)) := by
  have hi : i < env.length := (List.getElem?_eq_some_iff.mp e).1
  have hg : ∀ b, Gd F env σ b → Gd F (env.set i (.own ys)) σ b := fun b g => ⟨g.1, fun j zs ej => by
    rcases get_set_own ej with ⟨rfl, rfl⟩ | ⟨h1, h2⟩
    · exact g.2.1 j xs e
    · exact g.2.1 j zs h2, g.2.2⟩
  have ne : ∀ b, Gd F env σ b → b ≠ a := fun b g z => by subst z; exact g.2.1 i xs e ea
  have m : Mono (Gd F env σ) H (Gd F (env.set i (.own ys)) σ) (upd H a (.lst ws)) := by
    refine ⟨fun b o h n => ?_, fun b zs h g => ⟨?_, hg b g⟩⟩
    · have : b ≠ a := fun z => by subst z; rw [hp] at h; cases h; exact n vs rfl
      rw [upd_ne this]; exact h
    · rw [upd_ne (ne b g)]; exact h
  refine ⟨⟨by rw [List.length_set]; exact R.len, fun b o h n => ?_, fun b hb' => ?_, fun b h => ?_, fun j zs ej => ?_, fun j k zs us b e1 e2 e3 e4 => ?_, fun j d hj => ?_⟩, m⟩
  · have : b ≠ a := fun z => by subst z; rw [hs] at h; cases h
    rw [upd_ne this]; exact R.ext b o h n
  · obtain ⟨q, h1, h2⟩ := R.row b hb'
    have : b ≠ a := fun z => hr (z ▸ hb')
    refine ⟨q, by rw [upd_ne this]; exact h1, h2.ext fun o u z => ?_⟩
    have : q ≠ a := fun y => by subst y; rw [hp] at z; cases z
    rw [upd_ne this]; exact z
  · by_cases z : b = a
    · subst z; exact absurd h hb
    · rw [upd_ne z]; exact R.ban b h
  · rcases get_set_own ej with ⟨rfl, rfl⟩ | ⟨h1, h2⟩
    · exact ⟨a, ws, ea, upd_same, hd.mono m, hs, hr, hb⟩
    · obtain ⟨b, us, e1, e2, e3, e4⟩ := R.own j zs h2
      have : b ≠ a := fun z => by subst z; exact h1 (R.inj j i zs xs b h2 e e1 ea)
      exact ⟨b, us, e1, by rw [upd_ne this]; exact e2, e3.mono m, e4⟩
  · have old : ∀ (j : Nat) (zs : List D), (env.set i (.own ys))[j]? = some (Sl.own zs) → ∃ us, env[j]? = some (Sl.own us) := fun j zs ej => by
      rcases get_set_own ej with ⟨rfl, rfl⟩ | ⟨h1, h2⟩
      · exact ⟨_, e⟩
      · exact ⟨_, h2⟩
    obtain ⟨zs', q1⟩ := old j zs e1
    obtain ⟨us', q2⟩ := old k us e2
    exact R.inj j k zs' us' b q1 q2 e3 e4
  · by_cases z : i = j
    · subst z
      rw [List.getElem?_set_self hi] at hj
      cases hj
    · rw [List.getElem?_set_ne z] at hj
      obtain ⟨w, h1, h2⟩ := R.val j d hj
      exact ⟨w, h1, h2.mono m⟩
end
section
variable {X : Cx} {st : Stmt} {rest : List Stmt} {g k : FS} {pos : Pos} {e o : Expr}
theorem jss_frz (i : Nat) (h : JSs X rest k) : JSs X rest (sSeq (sFrz i) k) := ⟨pssW h.p fun D σ H ⟨F, env, s, R, q⟩ => by
  unfold sSeq sFrz at q
  cases he : env[i]? with
  | none => rw [he] at q; exact q.elim
  | some sl =>
    rw [he] at q
    cases sl with
    | no => exact q.elim
    | val d => exact q.elim
    | own xs =>
      obtain ⟨R2, m2⟩ := R.frz he
      exact ⟨F, _, s, R2, q.shift m2⟩⟩
/-- x.append(e) -/
def sApp (i : Nat) (f : FE) : FS := fun env s => match env[i]? with
  | some (.own xs) => (match f env s with
    | some (d, s') => if d.st = true ∧ xs.length < 1000000 then .nx (env.set i (.own (xs ++ [d]))) s' else .no
    | none => .no)
  | _ => .no
theorem js_append (i : Nat) {x : Str} {f : FE} {p0 apos cpos : Pos} (he : JE X e f) (hN : X.N[i]? = some x := by rfl) (hv : Vis X.env.scope x := by first | exact Or.inl rfl | exact Or.inr (Or.inl rfl) | exact Or.inr (Or.inr rfl)) (hd : (x == ("__debug__" : Str)) = false := by decide)
    (hcd : (x == ("__classdict__" : Str)) = false := by decide)
    (hbase : attributeBase (.Name x p0) "append" X.env (eval (.Name x p0) X.env) = eval (.Name x p0) X.env := by rfl)
    (hfew : ((backTo cpos (starEach [e] X.env)).all (fun x => !x.1) && (backToKw cpos (keywordEach [] X.env)).all (fun x => x.1.isSome) && decide (([e] : List Expr).length + ([] : List Keyword).length + (if ([] : List Keyword).isEmpty then 0 else 1) < 30)) = true := by rfl)
    (hline : (apos.endLine == cpos.line) = true := by rfl) (hst : starEach [e] X.env = (false, eval e X.env) :: starEach [] X.env := by rfl) (hplain : (backTo cpos (starEach [] X.env)).any (·.1) = false := by rfl)
    (hs : swapsWith (.Call (.Attribute (.Name x p0) "append" apos) [e] [] cpos) none pos.line X.env = pure false := by rfl) : JS X (.Expr (.Call (.Attribute (.Name x p0) "append" apos) [e] [] cpos) pos) (sApp i f) :=
  ⟨psW (ps_expr (pe_bm PySem.F.plainAttrs_list PySem.F.slot_list_append PySem.F.type_list_append mt_append (pv (pos := p0) i hN hv hd hcd) (pa_cons he.p pa_nil hst) hbase hfew hline hst hplain) hs) fun D σ H ⟨F, env, s, R, q⟩ => by
    unfold sApp at q
    split at q
    · rename_i xs ei
      split at q
      · rename_i d s' e1
        split at q
        · rename_i hx
          obtain ⟨a, vs, h1, h2, h3, h4, h5, h6⟩ := R.own i xs ei
          refine ⟨.ref a, h1, .inl ⟨rfl, vs, .of h2⟩, F, env, s, d, s', R, e1, fun v H1 x1 R1 d1 => ?_⟩
          have h2' : H1 a = some (.lst vs) := x1 _ _ h2 h5
          have h3' := h3.mono (R.mono x1)
          refine ⟨a, vs, v, rfl, rfl, h2', by rw [← h3.length]; exact lt_line (Nat.le_of_lt hx.2), ?_⟩
          obtain ⟨R2, m2⟩ := R1.upOwn ei h1 h2' (h3'.app (.cons (d1.to hx.1) .nil)) h4 h5 h6
          exact q σ _ R2 ((R.mono x1).trans m2)
        · exact q.elim
      · exact q.elim
    · exact q.elim⟩
/-- x[i] = e -/
def sSetIx (i : Nat) (f fi : FE) : FS := fun env s => match f env s with
  | some (d, s1) => if d.st = true then (match env[i]?, fi env s1 with
      | some (.own xs), some (.int k, s2) => (match ixN xs.length k with
        | some j => .nx (env.set i (.own (xs.set j d))) s2
        | none => .no)
      | _, _ => .no) else .no
  | none => .no
theorem js_setix (i : Nat) {x : Str} {ix : Expr} {f fi : FE} {p0 p1 : Pos} (he : JE X e f) (hix : JE X ix fi) (hN : X.N[i]? = some x := by rfl) (hv : Vis X.env.scope x := by first | exact Or.inl rfl | exact Or.inr (Or.inl rfl) | exact Or.inr (Or.inr rfl)) (hd : (x == ("__debug__" : Str)) = false := by decide)
    (hcd : (x == ("__classdict__" : Str)) = false := by decide)
    (ha : ∀ v, assign (.Subscript (.Name x p0) ix p1) X.env v = (do
      let ov ← holding [v] (eval (.Name x p0) X.env)
      let iv ← holding [v, ov] (eval ix X.env)
      standAt p1
      holding [v, ov, iv] (setItem ov iv v)
      release [v, ov, iv] []) := by intro _; rfl)
    (hs : swapsWithSole [.Subscript (.Name x p0) ix p1] e pos.line X.env = pure false := by rfl) (hw : swappedStores [.Subscript (.Name x p0) ix p1] e X.env = pure none := by rfl)
    (h1 : (assignEach [.Subscript (.Name x p0) ix p1] X.env).map (·.2) = [assign (.Subscript (.Name x p0) ix p1) X.env] := by rfl) : JS X (.Assign [.Subscript (.Name x p0) ix p1] e pos) (sSetIx i f fi) :=
  ⟨psW (ps_asg he.p (pg_sub (pv (pos := p0) i hN hv hd hcd) hix.p set_list ha) hs hw h1) fun D σ H ⟨F, env, s, R, q⟩ => by
    unfold sSetIx at q
    split at q
    · rename_i d s1 e1
      split at q
      · rename_i hst
        split at q
        · rename_i xs kk s2 ei e2
          split at q
          · rename_i j ej
            refine ⟨F, env, s, d, s1, R, e1, fun v H1 x1 R1 d1 => ?_⟩
            obtain ⟨a, vs, h1, h2, h3, h4, h5, h6⟩ := R1.own i xs ei
            refine ⟨.ref a, h1, F, env, s1, .int kk, s2, R1, e2, fun w H2 x2 R2 d2 => ?_⟩
            rw [d2.int]
            have h2' : H2 a = some (.lst vs) := x2 _ _ h2 h5
            have h3' := h3.mono (R1.mono x2)
            refine ⟨a, vs, kk, j, rfl, rfl, h2', by rw [← h3.length]; exact ej, ?_⟩
            obtain ⟨R3, m3⟩ := R2.upOwn ei h1 h2' (h3'.set (DR.mono (R1.mono x2) (d1.to hst)) j) h4 h5 h6
            exact q σ _ R3 ((R.mono (x1.trans x2)).trans m3)
          · exact q.elim
        · exact q.elim
      · exact q.elim
    · exact q.elim⟩
/-- x[i] op= e -/
theorem pget_list : PGet X (rIxL X.K) := by
  intro pins s σ H x y v u Q I rx ry h
  obtain ⟨p, xs, i, z, rfl, rfl, hq, he, q⟩ := h
  cases rx
  obtain ⟨t, rfl⟩ := ry
  obtain ⟨its, r, pl, hz⟩ := I.list hq
  obtain ⟨j, h1, h2, h3, h4, h5⟩ := atI_get he
  obtain ⟨w, ew, rw'⟩ := r.get h2
  have hl := r.length
  have hn := line63
  have fin : EP X pins σ Q w s := ⟨z, H, I, rw', q⟩
  by_cases h0 : 0 ≤ i
  · have hj : i.toNat = j := by
      rw [seqIndex_of h0 h5] at h1
      exact Option.some.inj h1
    exact wpAny_getItem_list pl.isList h0 (by omega) (by rw [hj]; simpa using ew) fin
  · have hj : (i + (its.toArray.size : Int)).toNat = j := by
      rw [seqIndex_neg (by omega) h4] at h1
      rw [List.size_toArray, ← hl]
      exact Option.some.inj h1
    exact wpAny_getItem_list_neg pl.isList (by omega) (by rw [List.size_toArray] <;> omega) (by omega) (by rw [hj]; simpa using ew) fin
def sAugIx (i : Nat) (fi f : FE) (op : D → D → Option D) : FS := fun env s => match env[i]?, fi env s with
  | some (.own xs), some (.int k, s1) => (match atI xs k, ixN xs.length k with
    | some x, some j => (match f env s1 with
      | some (y, s2) => (match op x y with
        | some z => if z.st = true then .nx (env.set i (.own (xs.set j z))) s2 else .no
        | none => .no)
      | none => .no)
    | _, _ => .no)
  | _, _ => .no
/-- in-place operators on values -/
def Ip2 (K : PySem.W.Frag) (r : TIp) (g : D → D → Option D) : Prop := ∀ (F : Fr) (env : Ev) (s : RS) (σ : L2.St) (H : Hp) (x y d : D) (u v : V) (Q : VK), Rep K F env s σ H → DV K F env σ H x u → DV K F env σ H y v → g x y = some d →
  (∀ w, DV K F env σ H d w → Q w H) → r u v H Q
def gAddI := gI (fun _ _ => true) fun i j => .int (i + j)
theorem i_add {K : PySem.W.Frag} : Ip2 K (ipI fun i j => i + j) gAddI := by
  intro F env s σ H x y d u v Q R dx dy e q
  unfold gAddI gI at e
  split at e
  · rw [if_pos rfl] at e
    cases e
    rw [dx.int, dy.int]
    exact ⟨_, _, rfl, rfl, q _ DV.mki⟩
  · cases e
theorem i_sub {K : PySem.W.Frag} : Ip2 K (ipI fun i j => i - j) gSub := by
  intro F env s σ H x y d u v Q R dx dy e q
  unfold gSub gI at e
  split at e
  · rw [if_pos rfl] at e
    cases e
    rw [dx.int, dy.int]
    exact ⟨_, _, rfl, rfl, q _ DV.mki⟩
  · cases e
theorem js_augix (i : Nat) {x : Str} {ix : Expr} {op : Operator} {ti : TIp} {fi f : FE} {h : D → D → Option D} {p0 p1 : Pos} (hp : PIp X op ti) (hh : Ip2 X.K ti h) (hix : JE X ix fi) (he : JE X e f) (hN : X.N[i]? = some x := by rfl) (hv : Vis X.env.scope x := by first | exact Or.inl rfl | exact Or.inr (Or.inl rfl) | exact Or.inr (Or.inr rfl)) (hd : (x == ("__debug__" : Str)) = false := by decide)
    (hcd : (x == ("__classdict__" : Str)) = false := by decide)
    (ha : ∀ ov iv new, augStore ix ov iv new = (do holding [new, ov, iv] (setItem ov iv new); release [new, ov, iv] []; pure .next) := by intros; rfl) : JS X (.AugAssign (.Subscript (.Name x p0) ix p1) op e pos) (sAugIx i fi f h) :=
  ⟨psW (ps_augS (pv (pos := p0) i hN hv hd hcd) hix.p pget_list he.p hp set_list ha) fun D σ H ⟨F, env, s, R, q⟩ => by
    unfold sAugIx at q
    split at q
    · rename_i xs kk s1 ei e1
      split at q
      · rename_i x j ex ej
        split at q
        · rename_i y s2 e2
          split at q
          · rename_i z ez
            split at q
            · rename_i hst
              obtain ⟨a, vs, h1, h2, h3, h4, h5, h6⟩ := R.own i xs ei
              refine ⟨.ref a, h1, F, env, s, .int kk, s1, R, e1, fun w H1 x1 R1 d1 => ?_⟩
              rw [d1.int]
              have h2' : H1 a = some (.lst vs) := x1 _ _ h2 h5
              have h3' := h3.mono (R.mono x1)
              obtain ⟨u, h7, h8⟩ := h3'.at ex
              refine ⟨a, vs, kk, u, rfl, rfl, .of h2', h7, F, env, s1, y, s2, R1, e2, fun w2 H2 x2 R2 d2 => ?_⟩
              refine hh F env s2 σ H2 x y z u w2 _ R2 (DV.of (h8.mono (R1.mono x2))) d2 ez fun w3 d3 => ?_
              have h2'' : H2 a = some (.lst vs) := x2 _ _ h2' h5
              have h3'' := h3'.mono (R1.mono x2)
              refine ⟨a, vs, kk, j, rfl, rfl, h2'', by rw [← h3.length]; exact ej, ?_⟩
              obtain ⟨R3, m3⟩ := R2.upOwn ei h1 h2'' (h3''.set (d3.to hst) j) h4 h5 h6
              exact q σ _ R3 ((R.mono (x1.trans x2)).trans m3)
            · exact q.elim
          · exact q.elim
        · exact q.elim
      · exact q.elim
    · exact q.elim⟩
/-- x op= e -/
def sAug (i : Nat) (f : FE) (op : D → D → Option D) : FS := fun env s => match env[i]? with
  | some (.val x) => (match f env s with
    | some (y, s1) => (match op x y with
      | some z => if z.st = true then .nx (env.set i (.val z)) s1 else .no
      | none => .no)
    | none => .no)
  | _ => .no
theorem js_aug (i : Nat) {x : Str} {op : Operator} {ti : TIp} {f : FE} {h : D → D → Option D} {p0 : Pos} (hp : PIp X op ti) (hh : Ip2 X.K ti h) (he : JE X e f) (hn : X.N.Nodup) (hN : X.N[i]? = some x := by rfl) (hx : Loc X.env.scope x := by first | exact Or.inl rfl | exact Or.inr rfl)
    (hf : X.fn x = true ∨ X.env.scope.names.lookup x = some .local := by first | exact .inl rfl | exact .inr rfl) : JS X (.AugAssign (.Name x p0) op e pos) (sAug i f h) :=
  ⟨psW (ps_aug hn hN hx he.p hp hf) fun D σ H ⟨F, env, s, R, q⟩ => by
    unfold sAug at q
    split at q
    · rename_i x ei
      split at q
      · rename_i y s1 e1
        split at q
        · rename_i z ez
          split at q
          · rename_i hst
            obtain ⟨u, h1, h2⟩ := R.val i x ei
            refine ⟨u, h1, F, env, s, y, s1, R, e1, fun w H1 x1 R1 d1 => ?_⟩
            refine hh F env s1 σ H1 x y z u w _ R1 (DV.of (h2.mono (R.mono x1))) d1 ez fun w3 d3 => ?_
            exact q _ _ (R1.put (d3.to hst) (List.getElem?_eq_some_iff.mp ei).1) ((R.mono x1).trans mono_val)
          · exact q.elim
        · exact q.elim
      · exact q.elim
    · exact q.elim⟩
/-- while, at most n turns -/
def sWhile (t : FT) (g : FS) : Nat → FS
  | 0, _, _ => .no
  | n + 1, env, s => match t env s with
    | none => .no
    | some (false, s1) => .nx env s1
    | some (true, s1) => match g env s1 with
      | .nx env' s' => sWhile t g n env' s'
      | .ct env' s' => sWhile t g n env' s'
      | .brk env' s' => .nx env' s'
      | .ret d s' => .ret d s'
      | .no => .no
theorem js_while (n : Nat) {c : Expr} {body : List Stmt} {t : FT} (hp : PassesOwn (model X.prog X.w) X.A X.env X.xe) (hc : JT X c t) (hb : JSs X body g) : JS X (.While c body [] pos) (sWhile t g n) :=
  ⟨psW (ps_while hp hc.p hb.p) fun D σ H ⟨F, env, s, R, q⟩ => by
    refine ⟨fun m σ H => ∃ (env : Ev) (s : RS), Rep X.K F env s σ H ∧ Post X.K F (Gd F env σ) H D (sWhile t g m env s), ⟨n, env, s, R, q⟩, ?_⟩
    rintro m σ H ⟨env, s, R, q⟩
    cases m with
    | zero => exact q.elim
    | succ m =>
      unfold sWhile at q
      split at q
      · exact q.elim
      · rename_i s1 e1
        exact ⟨F, env, s, false, s1, R, e1, fun H1 x1 R1 => iteF (q σ H1 R1 (R.mono x1))⟩
      · rename_i s1 e1
        refine ⟨F, env, s, true, s1, R, e1, fun H1 x1 R1 => iteT ⟨fun σ' H' => ∃ (env : Ev) (s : RS), Rep X.K F env s σ' H' ∧ Post X.K F (Gd F env σ') H' D (sWhile t g m env s), fun σ' H' h => ⟨m, Nat.lt_succ_self m, h⟩, F, env, s1, R1, ?_⟩⟩
        split at q
        · rename_i env' s' eo
          rw [eo]
          exact fun σ' H' R' m' => ⟨env', s', R', q.shift ((R.mono x1).trans m')⟩
        · rename_i env' s' eo
          rw [eo]
          exact fun σ' H' R' m' => ⟨env', s', R', q.shift ((R.mono x1).trans m')⟩
        · rename_i env' s' eo
          rw [eo]
          exact fun σ' H' R' m' => q σ' H' R' ((R.mono x1).trans m')
        · rename_i d s' eo
          rw [eo]
          exact q
        · exact q.elim⟩
/-- for -/
def sForGo (h : FG) (g : FS) : List D → FS
  | [], env, s => .nx env s
  | d :: ds, env, s => match h d env with
    | none => .no
    | some env1 => match g env1 s with
      | .nx env' s' => sForGo h g ds env' s'
      | .ct env' s' => sForGo h g ds env' s'
      | .brk env' s' => .nx env' s'
      | .ret d s' => .ret d s'
      | .no => .no
def sFor (fi : FI) (h : FG) (g : FS) : FS := fun env s => match fi env s with
  | some (false, ds, s1) => sForGo h g ds env s1
  | _ => .no
theorem js_for {tg iter : Expr} {body : List Stmt} {fi : FI} {ts : List Nat} {h : FG} (hp : PassesOwn (model X.prog X.w) X.A X.env X.xe) (hc : X.calm = true) (hi : JI X tg iter fi) (hg : JG X tg ts h) (hb : JSs X body g) (hs : ∀ x, foldedSetIterable iter X.env x = pure x := by intro _; rfl) :
    JS X (.For tg iter body [] pos) (sFor fi h g) :=
  ⟨psW (ps_for hp hc hi.p hg.p hb.p hs) fun D σ H ⟨F, env, s, R, q⟩ => by
    unfold sFor at q
    split at q
    · rename_i ds s1 e1
      refine ⟨F, env, s, false, ds, s1, R, e1, fun J H1 x1 R1 it => ?_⟩
      refine ⟨fun i m σ' H' => m = ds.length - i ∧ i ≤ ds.length ∧ ∃ (env' : Ev) (s' : RS), Rep X.K F env' s' σ' H' ∧ Mono (Gd F env σ) H1 (Gd F env' σ') H' ∧ Post X.K F (Gd F env' σ') H' D (sForGo h g (ds.drop i) env' s'),
        ⟨ds.length, by simp, Nat.zero_le _, env, s1, R1, .refl, by rw [List.drop_zero]; exact q.shift (R.mono x1)⟩, ?_⟩
      rintro i m σ' H' ⟨rfl, hi, env', s', R', m', q'⟩
      obtain ⟨igo, istop, iyld⟩ := it H' _ m' fun z => nomatch z
      by_cases hlt : i < ds.length
      · refine .inr ⟨igo i hlt, fun σ2 H2 => i + 1 ≤ ds.length ∧ ∃ (env' : Ev) (s' : RS), Rep X.K F env' s' σ2 H2 ∧ Mono (Gd F env σ) H1 (Gd F env' σ2) H2 ∧ Post X.K F (Gd F env' σ2) H2 D (sForGo h g (ds.drop (i + 1)) env' s'),
          fun σ2 H2 hm => ⟨ds.length - (i + 1), by omega, rfl, hm⟩, fun x H2 hy => ?_⟩
        obtain ⟨d, hd, sm, dx⟩ := iyld i x H2 hlt hy
        have hdrop : ds.drop i = d :: ds.drop (i + 1) := by
          rw [List.drop_eq_getElem_cons hlt]
          congr 1
          rw [List.getElem?_eq_getElem hlt] at hd
          exact Option.some.inj hd
        rw [hdrop] at q'
        unfold sForGo at q'
        split at q'
        · exact q'.elim
        · rename_i env1 e2
          have R2 := R'.same sm
          have mm := R'.mono (Same.ext sm)
          refine ⟨F, env', s', d, env1, R2, dx, e2, fun σ3 R3 gi _ => ⟨F, env1, s', R3, ?_⟩⟩
          have m3 : Mono (Gd F env' σ') H' (Gd F env1 σ3) H2 := mm.trans (mono_iff gi)
          split at q'
          · rename_i env2 s2 eo
            rw [eo]
            exact fun σ4 H4 R4 m4 => ⟨hlt, env2, s2, R4, m'.trans (m3.trans m4), q'.shift (m3.trans m4)⟩
          · rename_i env2 s2 eo
            rw [eo]
            exact fun σ4 H4 R4 m4 => ⟨hlt, env2, s2, R4, m'.trans (m3.trans m4), q'.shift (m3.trans m4)⟩
          · rename_i env2 s2 eo
            rw [eo]
            exact fun σ4 H4 R4 m4 => q' σ4 H4 R4 (m3.trans m4)
          · rename_i d2 s2 eo
            rw [eo]
            exact q'
          · exact q'.elim
      · have hie : i = ds.length := by omega
        subst hie
        rw [List.drop_length] at q'
        unfold sForGo at q'
        exact .inl ⟨istop, q' σ' H' R' .refl⟩
    · exact q.elim⟩
end

/-! ### defs -/
def fnOf (n : Nat) (g : FS) : Fn := fun ds s => match g (ds.map Sl.val ++ List.replicate (n - ds.length) .no) s with
  | .ret d s' => some (d, s')
  | .nx _ s' => some (.non, s')
  | _ => none
theorem DR.novw {K : PySem.W.Frag} {r : Option Addr} {G : Addr → Prop} {H : Hp} {d : D} {v : V} (h : DR K r G H d v) : d.st = true := by
  cases d <;> first | rfl | (unfold DR at h; exact h.elim)
theorem start_rep {K : PySem.W.Frag} {G : Addr → Prop} {r : Option Addr} {H : Hp} {ds : List D} {vs : List V} {s : RS} {N : List Str} (dv : DRs K r G H ds vs) (hg : ∀ a, G a → r ≠ some a) (ro : RowOk K r H s) :
    Rep K ⟨H, G, r, fun _ => False⟩ (ds.map Sl.val ++ List.replicate (N.length - ds.length) .no) s (L2.start N vs) H := by
  have hl := dv.length
  have noOwn : ∀ (i : Nat) (xs : List D), (ds.map Sl.val ++ List.replicate (N.length - ds.length) .no)[i]? ≠ some (Sl.own xs) := fun i xs e => by
    by_cases hi : i < ds.length
    · rw [List.getElem?_append_left (by simpa using hi), List.getElem?_map, List.getElem?_eq_getElem hi] at e
      cases e
    · rw [List.getElem?_append_right (by simpa using hi), List.getElem?_replicate] at e
      split at e
      · cases e
      · cases e
  refine ⟨by unfold L2.start; simp [hl], Ext.refl, ro, fun _ h => h.elim, fun i xs e => absurd e (noOwn i xs), fun i j xs ys a e => absurd e (noOwn i xs), fun i d e => ?_⟩
  by_cases hi : i < ds.length
  · rw [List.getElem?_append_left (by simpa using hi), List.getElem?_map] at e
    have e' : ds[i]? = some d := by
      cases q : ds[i]? with
      | none => rw [q] at e; cases e
      | some x => rw [q] at e; cases e; rfl
    obtain ⟨v, h1, h2⟩ := dv.get e'
    refine ⟨v, ?_, h2.mono ⟨fun _ _ h _ => h, fun a _ h g => ⟨h, .inl g, fun j xs e => absurd e (noOwn j xs), hg a g, fun z => z⟩⟩⟩
    unfold L2.start
    rw [List.getElem?_append_left (by rw [List.length_map]; omega), List.getElem?_map, h1]
    rfl
  · rw [List.getElem?_append_right (by simpa using hi), List.getElem?_replicate] at e
    split at e
    · cases e
    · cases e
theorem fn_ok {K : PySem.W.Frag} {n m : Nat} {g : FS} {N : List Str} (hN : N.length = m) {vs : List V} {H : Hp} {Q : VK} {E : XK} (h : spF K n (fnOf m g) vs H Q E) : tS K g { nx := fun _ H' => Q .non H', rt := Q } (L2.start N vs) H := by
  obtain ⟨hl, G, r, ds, s, d, s', dv, hg, ro, e, q⟩ := h
  have R := start_rep (N := N) dv hg ro
  rw [hN] at R
  refine ⟨_, _, s, R, ?_⟩
  unfold fnOf at e
  split at e
  · rename_i d1 s1 eo
    cases e
    rw [eo]
    exact fun v env σ H' R' dd => q v H' R'.ext R'.row dd
  · rename_i env1 s1 eo
    cases e
    rw [eo]
    exact fun σ H' R' m' => q .non H' R'.ext R'.row (by unfold DR; rfl)
  · cases e
theorem mk_fn {P : Program} {w : World} {K : PySem.W.Frag} {mg : Str → Option Value} {base : Heap} {x : Str} {st : Stmt} {f : Addr} {fd : FuncData} {N ps : List Str} {k m : Nat} {g : FS} (F : C8.Def K mg x st f fd) (b : Binds K fd ps []) (S : FnScope N ps (C8.fnScope st)) (hm : N.length = m)
    (hbody : ∀ (cdv : Value) (A : Around) (outer : List Env) (s : Shared) (H : Hp) (E : XK), Room k (A.deeper (PyProof.Rows.envOfC x (C8.fnScope st) s.heap.objs.size f cdv)) → JSs (cxOf C8.CX0 P w K mg base N x (C8.fnScope st) f cdv A outer s H E).nox (C8.fnBody st) g) :
    C8.Cal P w K mg base (k + 1) x (spF K ps.length (fnOf m g)) [] :=
  C8.cal0 F b .nil S (fun vs H Q E h => h.1) fun cdv A outer s H vs Q E hr h => ⟨_, (hbody cdv A outer s H E hr).p, fn_ok hm h⟩
end DL

namespace DL
open PySem PySem.Spec L2

/-! ### t[lo:hi:c] of a tuple, c neither 0 nor 1 -/
/-- the first place, how many -/
def stepAt (lo hi : Option Int) (c : Int) (n : Nat) : Int × Nat := ((Builtin.Slice.sliceAdjust lo hi c (n : Int)).1, Builtin.Slice.slicePlaces (Builtin.Slice.sliceAdjust lo hi c (n : Int)).1 (Builtin.Slice.sliceAdjust lo hi c (n : Int)).2 c)
def stepL {α : Type} (xs : List α) (lo hi : Option Int) (c : Int) : List α := (List.range (stepAt lo hi c xs.length).2).filterMap fun (k : Nat) => xs[((stepAt lo hi c xs.length).1 + (k : Int) * c).toNat]?
section
variable {prog : Program} {w : World} {A : Around} {E : Value → Shared → Prop} {s : Shared}
theorem sliceApplied_step {sl : Addr} {vl vu vs : Value} {lo hi : Option Int} {c : Int} {n : Nat} {Q : Int × Int × Nat → Shared → Prop} (hs : s.heap.IsSliceOf sl vl vu vs) (pl : IsPart vl lo) (pu : IsPart vu hi) (ps : IsPart vs (some c)) (h0 : c ≠ 0)
    (h : Q ((stepAt lo hi c n).1, c, (stepAt lo hi c n).2) s) : wpAny (model prog w) A (Builtin.Slice.sliceApplied (.ref sl) (pure (n : Int))) Q E s := by
  obtain ⟨os, hos, hcs, hds⟩ := id hs
  unfold Builtin.Slice.sliceApplied Builtin.Slice.sliceFields
  refine wpAny_bind (wpAny_bind (wpAny_field hos hds (x := vl) rfl (wpAny_bind (wpAny_field hos hds (x := vu) rfl (wpAny_bind (wpAny_field hos hds (x := vs) rfl (wpAny_pure ?_)))))))
  refine wpAny_bind (HT.slicePart_ ps ?_)
  show wpAny _ _ (if (c == 0) = true then _ else _) _ _ s
  rw [if_neg (by simpa using h0)]
  refine wpAny_bind (HT.slicePart_ pl (wpAny_bind (HT.slicePart_ pu (wpAny_bind (wpAny_pure ?_)))))
  exact wpAny_pure h
theorem getItem_tuple_step {t sl : Addr} {its : List Value} {vl vu vs : Value} {lo hi : Option Int} {c : Int} {Q : Value → Shared → Prop} (ht : PyProof.Rows.IsTup s.heap t its.toArray) (hs : s.heap.IsSliceOf sl vl vu vs) (pl : IsPart vl lo) (pu : IsPart vu hi) (ps : IsPart vs (some c)) (h0 : c ≠ 0) (h1 : c ≠ 1)
    (h : Q (.ref s.heap.objs.size) { s with heap := s.heap.push { cls := .type "tuple", data := .seq (stepL its lo hi c).toArray } })
    (hsz : (stepL its lo hi c).length ≤ sizeLine) : wpAny (model prog w) A (getItem (.ref t) (.ref sl)) Q E s := by
  have htake : sizeOk (.seq (stepL its lo hi c).toArray) := by
    show (stepL its lo hi c).toArray.size ≤ sizeLine
    rw [List.size_toArray]; exact hsz
  obtain ⟨os, hos, hcs, hds⟩ := id hs
  have hTs : s.TypeIs (.ref sl) "slice" := ⟨os, hos, hcs⟩
  unfold getItem
  try with_reducible refine wpAny_holding ?_
  first | refine wpAny_bind (wpAny_pure ?_) | skip
  refine wpAny_bind (wpAny_sequenceKey ht.typeIs (by decide) ?_)
  refine wpAny_bind (wpAny_callSpecial?_slot (name := Str.ofString "__getitem__") ht.typeIs PyProof.Rows.slot_tuple_getitem
    (wpAny_call_entry PyProof.Rows.slot_tuple_getitem ht.typeIs PyProof.Rows.entry_tuple_getitem ?_ (PyProof.Rows.args_tuple_getitem _ _)))
  show wpAny _ _ (Builtin.Tuple.tupleItemsOf (.ref t) >>= _) _ _ s
  refine wpAny_bind (PyProof.Rows.tupleItemsOf_ ht ?_)
  refine wpAny_bind (wpAny_typeOf hTs ?_)
  rw [if_pos (by decide)]
  refine wpAny_bind (sliceApplied_step (n := its.toArray.size) hs pl pu ps h0 ?_)
  have hno : ¬ (((stepAt lo hi c its.toArray.size).1 == 0 && c == 1 && (stepAt lo hi c its.toArray.size).2 == its.toArray.size) = true) := by
    intro q
    rw [Bool.and_eq_true, Bool.and_eq_true] at q
    exact h1 (eq_of_beq q.1.2)
  show wpAny _ _ (if ((stepAt lo hi c its.toArray.size).1 == 0 && c == 1 && (stepAt lo hi c its.toArray.size).2 == its.toArray.size) = true then _ else _) _ _ s
  rw [if_neg hno]
  have e : ((List.range (stepAt lo hi c its.toArray.size).2).filterMap fun (k : Nat) => its.toArray[((stepAt lo hi c its.toArray.size).1 + (k : Int) * c).toNat]?).toArray = (stepL its lo hi c).toArray := by
    unfold stepL
    rw [List.size_toArray]
    congr 2
    funext k
    simp
  rw [e]
  first
    | exact wpAny_bind (m := Builtin.Tuple.tupleExact _) (wpAny_newObj_type (wpAny_pure ⟨_, rfl, wpAny_pure h⟩) htake)
    | exact wpAny_bind (m := Builtin.Tuple.tupleExact _) (wpAny_newObj_type (wpAny_bind (wpAny_pure (wpAny_pure ⟨_, rfl, wpAny_pure h⟩))) htake)
    | exact wpAny_bind (wpAny_bind (m := Builtin.Tuple.tupleExact _) (wpAny_newObj_type (wpAny_pure (wpAny_pure ⟨_, rfl, wpAny_pure h⟩)) htake))
    | exact wpAny_bind (wpAny_bind (m := Builtin.Tuple.tupleExact _) (wpAny_newObj_type (wpAny_pure ⟨_, rfl, wpAny_pure h⟩) htake))
end
theorem Vals.step {xs : List V} {us : List Value} (r : Vals xs us) (lo hi : Option Int) (c : Int) : Vals (stepL xs lo hi c) (stepL us lo hi c) := by
  unfold stepL
  rw [r.length]
  induction List.range (stepAt lo hi c us.length).2 with
  | nil => exact .nil
  | cons k ks ih =>
    rw [List.filterMap_cons, List.filterMap_cons]
    cases h : xs[((stepAt lo hi c us.length).1 + (k : Int) * c).toNat]? with
    | none =>
      rw [r.none_of h]
      exact ih
    | some x =>
      obtain ⟨u, h1, h2⟩ := r.get h
      rw [h1]
      exact .cons h2 ih
theorem DRs.step {K : PySem.W.Frag} {r : Option Addr} {G : Addr → Prop} {H : Hp} {xs : List D} {vs : List V} (h : DRs K r G H xs vs) (lo hi : Option Int) (c : Int) : DRs K r G H (stepL xs lo hi c) (stepL vs lo hi c) := by
  unfold stepL
  rw [h.length]
  induction List.range (stepAt lo hi c vs.length).2 with
  | nil => exact .nil
  | cons k ks ih =>
    rw [List.filterMap_cons, List.filterMap_cons]
    cases hx : xs[((stepAt lo hi c vs.length).1 + (k : Int) * c).toNat]? with
    | none =>
      have hv : vs[((stepAt lo hi c vs.length).1 + (k : Int) * c).toNat]? = none := by
        rw [List.getElem?_eq_none_iff] at hx ⊢
        have hl := h.length
        omega
      rw [hv]
      exact ih
    | some x =>
      obtain ⟨u, h1, h2⟩ := h.get hx
      rw [h1]
      exact .cons h2 ih
def fStep (f : FE) (l h : FO) (st : FE) : FE := fun env s => match f env s with
  | some (.tup xs, s1) => (match l env s1 with
    | some (lo, s2) => (match h env s2 with
      | some (hi, s3) => (match st env s3 with
        | some (.int c, s4) => if c ≠ 0 ∧ c ≠ 1 ∧ (stepL xs lo hi c).length ≤ 1000000 then some (.tup (stepL xs lo hi c), s4) else none
        | _ => none)
      | none => none)
    | none => none)
  | _ => none
section
variable {X : Cx} {a b c e st tg : Expr} {es : List Expr} {fa fb fc f : FE} {pos p : Pos}
theorem je_step {lo hi : Option Expr} {p2 : Pos} {fl fh : FO} (ha : JE X a fa) (hl : JO X lo fl) (hh : JO X hi fh) (hst : JE X st fc)
    (hsub : ∀ o i, subscripted (.Slice lo hi (some st) p2) false o i = operate [o, i] (getItem o i) := by intro _ _; rfl) : JE X (.Subscript a (.Slice lo hi (some st) p2) pos) (fStep fa fl fh fc) := by
  obtain ⟨tl, pl, wl⟩ := hl.p
  obtain ⟨th, ph, wh⟩ := hh.p
  refine ⟨⟨fun pins s0 σ H Q I ⟨F, env, s, d, s', R, e, q⟩ => ?_⟩⟩
  unfold fStep at e
  split at e
  · rename_i xs s1 e1
    split at e
    · rename_i l s2 e2
      split at e
      · rename_i u s3 e3
        split at e
        · rename_i k s4 e4
          split at e
          · rename_i hk
            cases e
            refine PyProof.Rows.Subscript_ (thn (ha.p.run pins s0 σ H (fun v H1 => Ext F.r H H1 ∧ Rep X.K F env s1 σ H1 ∧ DV X.K F env σ H1 (.tup xs) v) I ⟨F, env, s, _, s1, R, e1, fun v H1 x1 R1 d1 => ⟨x1, R1, d1⟩⟩) fun v t1 ⟨x, H1, I1, r1, x1, R1, d1⟩ => ?_)
            refine wpAny_Slice (thn (pl.run pins t1 σ H1 (fun o H2 => o = l ∧ Ext F.r H1 H2 ∧ Rep X.K F env s2 σ H2) I1 (wl _ _ _ ⟨F, env, s1, l, s2, R1, e2, fun H2 x2 R2 => ⟨rfl, x2, R2⟩⟩)) fun vl t2 ⟨l', H2, I2, pl2, el, x2, R2⟩ => ?_)
            subst el
            refine thn (ph.run pins t2 σ H2 (fun o H3 => o = u ∧ Ext F.r H2 H3 ∧ Rep X.K F env s3 σ H3) I2 (wh _ _ _ ⟨F, env, s2, u, s3, R2, e3, fun H3 x3 R3 => ⟨rfl, x3, R3⟩⟩)) fun vu t3 ⟨u', H3, I3, pu2, eu, x3, R3⟩ => ?_
            subst eu
            refine thn ((po_some hst.p).run pins t3 σ H3 (fun o H4 => o = some k ∧ Ext F.r H3 H4 ∧ Rep X.K F env s' σ H4) I3 ⟨F, env, s3, .int k, s', R3, e4, fun w H4 x4 R4 d4 => ⟨k, d4.int, rfl, x4, R4⟩⟩) fun vk t4 ⟨o', H4, I4, pk, eo, x4, R4⟩ => ?_
            subst eo
            have xx := x2.trans (x3.trans x4)
            have d4 := d1.mono R1 xx
            obtain ⟨a', vs, rfl, h1, h2⟩ := d4.tup
            cases r1
            have I5 : Inv X pins σ H4 { t4 with heap := t4.heap.push { cls := .type "slice", data := .fields #[vl, vu, vk] } } := I4.kept (t' := t4.toks) fun b ob q => Heap.get?_push_of_some _ q
            obtain ⟨its, r, ht, hz⟩ := I5.tuple h1
            have hlen : (stepL its l' u' k).length ≤ sizeLine := by
              have e5 := (Vals.step r l' u' k).length
              have e6 := (h2.step l' u' k).length
              rw [← e5, ← e6]; exact le_line hk.2.2
            show wpAny (model X.prog X.w) X.A (PyProof.Rows.subscriptTail a (.Slice lo hi (some st) p2) (.ref a') (.ref t4.heap.objs.size)) (EP X pins σ Q) X.xe { t4 with heap := t4.heap.push { cls := .type "slice", data := .fields #[vl, vu, vk] } }
            refine PyProof.Rows.tail_any (ops := [.ref a', .ref t4.heap.objs.size]) ht.typeIs (PyProof.Rows.slot_tuple_getitem.lookup) ?_ (hsub _ _)
            refine getItem_tuple_step ht (Heap.IsSliceOf.new _ vl vu vk) pl2 pu2 pk hk.1 hk.2.1 ?_ hlen
            have n : H4 (t4.heap.push { cls := .type "slice", data := .fields #[vl, vu, vk] }).objs.size = none := I5.hok.fresh (Nat.le_refl _)
            refine ⟨.ref _, _, I5.laid (t' := t4.toks) (o := .tup (stepL vs l' u' k)) (fun b ob q => Heap.get?_push_of_some _ q) (Nat.le_refl _) ?_, rfl, q _ _ (x1.trans (xx.trans (Same.ext (same_upd n)))) (R4.same (same_upd n)) (new_tup R4 (h2.step l' u' k) n)⟩
            exact ⟨by rw [(Vals.step r l' u' k).length]; exact hlen, _, Vals.step r l' u' k, PyProof.Rows.IsTup.new _ _⟩
          · cases e
        · cases e
      · cases e
    · cases e
  · cases e
end
end DL

namespace PySem
open Sem (wp)
section
theorem meets_enumerate_newB1 {v : Value} {o : Obj} {H : Heap → Prop} (B : Begins v o H) :
    Meets (Builtin.«enumerate.__new__» ⟨[.type "enumerate", v], []⟩) (fun _ R s => H s.heap ∧
      R (.ok (.ret (.ref (s.heap.push o).objs.size))) { s with heap := (s.heap.push o).push { cls := .type "enumerate", data := .fields #[.none, .bool false, .ref s.heap.objs.size, rawInt 0, .none, .none] } }) :=
  .of_wp fun prog w A R s h => by
    obtain ⟨hp, g, d, tk, os⟩ := s; obtain ⟨h1, h⟩ := h
    have hsub := sub_enumerate
    have q1 : ∀ {A' : Around} {E : Value → Shared → Prop} {Q : Value → Shared → Prop}, Q (.ref hp.objs.size) ⟨hp.push o, g, d, tk, os⟩ → wpAny (model prog w) A' (pyIter v) Q E ⟨hp, g, d, tk, os⟩ :=
      fun q => B.iter prog w _ _ ⟨hp, g, d, tk, os⟩ _ h1 q
    wp_walk using q1
    refine wpAny_stack_any fun st => wpAny_pure ?_
    split
    · rename_i c _ _ _ _ _
      cases (c == Value.type "enumerate")
      · wp_walk using q1
        exact ⟨_, rfl, h⟩
      · wp_walk using q1
        exact ⟨_, rfl, h⟩
    · wp_walk using q1
      exact ⟨_, rfl, h⟩
variable {prog : Program} {w : World} {A : Around} {E : Value → Shared → Prop} {s : Shared}
theorem enum_begins1 {v : Value} {o : Obj} {H : Heap → Prop} {Q : Value → Shared → Prop} (B : Begins v o H) (h1 : H s.heap)
    (h : ∀ h', IsEnum h' (s.heap.objs.size + 1) s.heap.objs.size 0 .none → h'.get? s.heap.objs.size = some o → h'.objs.size = s.heap.objs.size + 2 →
      (∀ b o, s.heap.get? b = some o → h'.get? b = some o) → Q (.ref (s.heap.objs.size + 1)) { s with heap := h' }) :
    wpAny (model prog w) A (call (.type "enumerate") [v]) Q E s := by
  refine callType_new F.called_enumerate (by decide) (F.typeCall_enumerate_1 _) (F.newCall_enumerate_1 _) (fun obj => F.args_object_init_2 obj _) F.entry_enumerate_new
    (meets_enumerate_newB1 B) ⟨h1, ?_⟩
  have hz : (s.heap.push o).objs.size = s.heap.objs.size + 1 := Heap.size_push ..
  show _ ∧ _
  rw [hz]
  have he : IsEnum ((s.heap.push o).push { cls := .type "enumerate", data := .fields #[.none, .bool false, .ref s.heap.objs.size, rawInt 0, .none, .none] }) (s.heap.objs.size + 1) s.heap.objs.size 0 .none := by
    have := Heap.get?_push_size (s.heap.push o) (o := { cls := .type "enumerate", data := .fields #[.none, .bool false, .ref s.heap.objs.size, rawInt 0, .none, .none] }) rfl
    rw [hz] at this; exact this
  refine ⟨⟨_, he, rfl⟩, h _ he (Heap.get?_push_of_some _ (Heap.get?_push_size _ B.free)) (by rw [Heap.size_push, hz]) fun b o x => Heap.get?_push_of_some _ (Heap.get?_push_of_some _ x)⟩
end
end PySem
namespace DL
open PySem PySem.Spec L2

/-- the tuple at a, each item in a new pair -/
def IteT (K : PySem.W.Frag) (a : Addr) : It :=
  ⟨fun i H => ∃ (xs : List V) (x : V), SqT K H a xs ∧ xs[i]? = some x, fun i H v H' => ∃ T x, v = .ref T ∧ H T = none ∧ H' = upd H T (.tup [.int (i : Nat), x]) ∧ ∀ xs, SqT K H a xs → xs[i]? = some x, fun i H => ∃ xs : List V, SqT K H a xs ∧ xs.length = i⟩
theorem turn_enumT {P : Program} {w : World} {K : PySem.W.Frag} {elts : List Expr} {kk : Nat} {tpos : Pos} (a e it : Addr) :
    Turn P w K (.Tuple elts kk tpos) (IteT K a) [e, it] e (fun i h => (∃ old, IsEnum h e it ((i : Nat) : Int) old) ∧ h.IsTupleIter it a i ∧ e ≠ it ∧ a ≠ it ∧ a ≠ e) where
  mem := by simp
  obj := fun i h st b hb => by
    obtain ⟨⟨old, he⟩, ⟨o, ho, hc, hd⟩, _⟩ := st
    have e' : b = e ∨ b = it := by simpa using hb
    rcases e' with z | z
    · rw [z]; exact ⟨_, he, fun v q => nomatch q⟩
    · rw [z]; exact ⟨o, ho, fun v q => by rw [hd] at q; cases q⟩
  keep := fun i h h' st k => let ⟨⟨old, he⟩, hi, hne⟩ := st; ⟨⟨old, k e (by simp) _ he⟩, hi.at fun o q => k it (by simp) o q, hne⟩
  item := by
    intro X hP hw hK hc i pins s σ H E I hf st hg
    subst hP hw hK
    obtain ⟨⟨old, he⟩, hit, hne, hai, hae⟩ := st
    obtain ⟨xs, x, hq, hx⟩ := hg
    obtain ⟨its, rv, p, hz⟩ := I.tuple hq
    obtain ⟨u, hu, ru⟩ := rv.get hx
    have hel : e < s.heap.objs.size := Heap.lt_size he
    have hil : it < s.heap.objs.size := by obtain ⟨_, q, _⟩ := hit; exact Heap.lt_size q
    have hlt : i < its.toArray.size := by
      rw [List.size_toArray]
      exact (List.getElem?_eq_some_iff.mp hu).1
    have hT0 : s.heap.IsTuple a its.toArray := by
      obtain ⟨o, ho, hc', n, hd⟩ := p
      exact ⟨o, ho, hc', n, hd⟩
    refine wpAny_pyNext_enum_itemD (Draws.tuple (A := X.A.in1) (I.ok.hd hc) it a hai its.toArray) he ⟨hit, hT0⟩ hlt hne (by simp [hne, Ne.symm hae]) fun y h' tk hy ho hst hT hsz hk => ?_
    have ey : y = u := by
      have h1 : its[i]? = some y := by simpa using hy
      rw [hu] at h1
      exact (Option.some.inj h1).symm
    subst ey
    refine ⟨_, rfl, wpAny_letOwnedTupleGo_enum (s := { s with heap := h', toks := tk + 1 }) ho fun h'' he' sb => ?_⟩
    have hT2 : h''.get? s.heap.objs.size = some { cls := .type "tuple", data := .seq #[.int i tk, y] } := (sb.2 _ (Nat.ne_of_gt hel)).trans hT
    have new : ObjOk X.prog X.w (upd H s.heap.objs.size (.tup [.int (i : Nat), x])) h'' s.heap.objs.size (.tup [.int (i : Nat), x]) :=
      ⟨by show 2 ≤ sizeLine; decide, [.int i tk, y], .cons ⟨_, rfl⟩ (.cons ru .nil), ⟨_, hT2, rfl, _, rfl⟩⟩
    have I1 : Inv X pins σ (upd H s.heap.objs.size (.tup [.int (i : Nat), x])) { s with heap := h'', toks := tk + 1 } :=
      I.turnedNew (ch := [e, it]) (fun b ob hb q => (sb.2 b (fun z => hb (by simp [z]))).trans (hk b ob (fun z => hb (by simp [z])) (fun z => hb (by simp [z])) q)) hf (Nat.le_refl _) new
    refine ⟨.ref s.heap.objs.size, _, I1, rfl, ⟨_, x, rfl, I.hok.fresh (Nat.le_refl _), rfl, fun ys hy => by rw [I.tuple_inj hy hq]; exact hx⟩, ⟨⟨y, ?_⟩, hst.1.at fun o q => (sb.2 it (Ne.symm hne)).trans q, hne, hai, hae⟩, fun b hb => ?_⟩
    · have e1 : ((i + 1 : Nat) : Int) = (i : Int) + 1 := by omega
      rw [e1]; exact he'
    · have hb' : b < s.heap.objs.size := by
        have e' : b = e ∨ b = it := by simpa using hb
        rcases e' with z | z
        · rw [z]; exact hel
        · rw [z]; exact hil
      rw [upd_ne (Nat.ne_of_lt hb')]
      exact (hf b hb).1
  done := by
    intro X hP hw hK hc i pins s σ H E I hf st hg
    subst hP hw hK
    obtain ⟨⟨old, he⟩, hit, hne, hai, hae⟩ := st
    obtain ⟨xs, hq, hx⟩ := hg
    obtain ⟨its, rv, p, hz⟩ := I.tuple hq
    obtain ⟨f0, f1, f2, f3, f4, f5⟩ := hf it (by simp)
    have hT0 : s.heap.IsTuple a its.toArray := by
      obtain ⟨o, ho, hc', n, hd⟩ := p
      exact ⟨o, ho, hc', n, hd⟩
    have hl := rv.length
    have hi : i = its.toArray.size := by rw [List.size_toArray]; omega
    subst hi
    exact wpAny_pyNext_enum_endD (Draws.tuple (A := X.A.in1) (I.ok.hd hc) it a hai its.toArray) he ⟨hit, hT0⟩ fun h' eb => ⟨rfl, I.turned (t' := s.toks) (fun b o hb q => eb b o hb q) f0 f1 f3 f4 f5⟩
  self := fun A i s Q E st h => let ⟨⟨_, he⟩, _⟩ := st; wpAny_pyIter_enum he h

def iEnumT (K : PySem.W.Frag) (ta : TA) : TI := fun σ H R => ta σ H fun vs H1 => ∃ a xs, vs = [.ref a] ∧ SqT K H1 a xs ∧ R (IteT K a) H1
theorem pi_enumT {X : Cx} {e : Expr} {ta : TA} {p pos tpos : Pos} {elts : List Expr} {kk : Nat} (hg : Gl X "enumerate") (hm : X.mg "enumerate" = none) (ha : PA X [e] ta) (hs : starEach [e] X.env = [(false, eval e X.env)] := by rfl) :
    PI X (.Tuple elts kk tpos) (.Call (.Name "enumerate" p) [e] [] pos) (iEnumT X.K ta) := by
  refine ⟨fun pins s σ H R I h => ?_⟩
  refine PyProof.Rows.Call_ (ld_blt I hg hm PyProof.Rows.boot_enumerate (PyProof.Rows.callWith_type1 (thn (ha.run pos pins s σ H _ I h) fun us s1 ⟨vs, H1, I1, r1, q1⟩ => ?_) hs rfl))
  obtain ⟨a, xs, ex, hq, q⟩ := q1
  subst ex
  cases r1 with
  | cons r rr =>
    cases rr
    cases r
    obtain ⟨its, rv, p', hz⟩ := I1.tuple hq
    have hT0 : s1.heap.IsTuple a its.toArray := by
      obtain ⟨o, ho, hc', n, hd⟩ := p'
      exact ⟨o, ho, hc', n, hd⟩
    have hal : a < s1.heap.objs.size := by obtain ⟨o, ho, _⟩ := p'; exact Heap.lt_size ho
    refine enum_begins1 (begins_tuple a its.toArray) hT0 fun h' he hit hsz hk => wpAny_pyIter_enum he ?_
    have I2 : Inv X pins σ H1 { s1 with heap := h' } := I1.kept (t' := s1.toks) hk
    refine ⟨s1.heap.objs.size + 1, [s1.heap.objs.size + 1, s1.heap.objs.size], _, _, H1, rfl, I2, turn_enumT a (s1.heap.objs.size + 1) s1.heap.objs.size, ⟨⟨.none, he⟩, ⟨_, hit, rfl, rfl⟩, Nat.succ_ne_self _, Nat.ne_of_lt hal, Nat.ne_of_lt (Nat.lt_succ_of_lt hal)⟩, fun b hb => ?_, q⟩
    have e' : b = s1.heap.objs.size + 1 ∨ b = s1.heap.objs.size := by simpa using hb
    have hle : s1.heap.objs.size ≤ b := by
      rcases e' with z | z
      · rw [z]; exact Nat.le_add_right _ _
      · rw [z]; exact Nat.le_refl _
    exact I1.fpOk hle (I1.hok.fresh hle)

/-! ### enumerate, zip as data -/
def enD (i : Nat) : List D → List D
  | [] => []
  | d :: ds => .tup [.int (i : Int), d] :: enD (i + 1) ds
theorem enD_len : ∀ (ds : List D) (i : Nat), (enD i ds).length = ds.length
  | [], _ => rfl
  | d :: ds, i => by unfold enD; rw [List.length_cons, List.length_cons, enD_len ds]
theorem enD_get : ∀ (ds : List D) (i j : Nat) (d : D), ds[j]? = some d → (enD i ds)[j]? = some (.tup [.int ((i + j : Nat) : Int), d])
  | [], i, j, d, h => by simp at h
  | x :: ds, i, 0, d, h => by
    have e : x = d := by simpa using h
    subst e
    unfold enD
    simp
  | x :: ds, i, j + 1, d, h => by
    unfold enD
    rw [List.getElem?_cons_succ, enD_get ds (i + 1) j d (by simpa using h)]
    congr 4
    omega
section
variable {K : PySem.W.Frag} {F : Fr} {env : Ev} {s : RS} {σ : L2.St} {H : Hp} {xs ys : List D} {a b : Addr} {vs ws : List V} {vw : Bool}
theorem pair_new {r : Option Addr} {G : Addr → Prop} {Hn : Hp} {T : Addr} {d e : D} {x y : V} (n : Hn T = none) (h : DR K r G Hn d x) (h' : DR K r G Hn e y) : DR K r G (upd Hn T (.tup [x, y])) (.tup [d, e]) (.ref T) := by
  have m : Mono G Hn G (upd Hn T (.tup [x, y])) := ⟨fun _ _ h _ => same_upd n _ _ h, fun _ _ h g => ⟨same_upd n _ _ h, g⟩⟩
  unfold DR
  exact ⟨T, _, rfl, .of upd_same, .cons (h.mono m) (.cons (h'.mono m) .nil)⟩
theorem it_enum (h1 : H a = some (.lst vs)) (h2 : DRs K F.r (Gd F env σ) H xs vs) (hv : vw = true → F.r ≠ some a) (hg : vw = false → Gd F env σ a) : ItOk K F env σ H (Ite K a) vw (enD 0 xs) := by
  intro Hn G' m x
  rw [enD_len]
  have ha : Hn a = some (.lst vs) := by
    cases vw with
    | true => exact x rfl a _ h1 (hv rfl)
    | false => exact (m.2 a vs h1 (hg rfl)).1
  have h3 := h2.mono m
  have hl := h3.length
  refine ⟨fun i hi => ⟨vs, vs[i]'(by omega), .of ha, by simp [show i < vs.length by omega]⟩, ⟨vs, .of ha, by omega⟩, fun i y H' hi hy => ?_⟩
  obtain ⟨T, z, rfl, nT, rfl, hy⟩ := hy
  obtain ⟨v, h4, h5⟩ := h3.get (List.getElem?_eq_getElem hi)
  have h6 := hy vs (.of ha)
  rw [h4] at h6
  cases h6
  refine ⟨_, enD_get xs 0 i _ (List.getElem?_eq_getElem hi), same_upd nT, ?_⟩
  rw [Nat.zero_add]
  exact pair_new nT (by unfold DR; rfl) h5
theorem it_enumT (h1 : SqT K H a vs) (h2 : DRs K F.r (Gd F env σ) H xs vs) : ItOk K F env σ H (IteT K a) vw (enD 0 xs) := by
  intro Hn G' m x
  rw [enD_len]
  have ha : SqT K Hn a vs := m.sqT h1
  have h3 := h2.mono m
  have hl := h3.length
  refine ⟨fun i hi => ⟨vs, vs[i]'(by omega), ha, by simp [show i < vs.length by omega]⟩, ⟨vs, ha, by omega⟩, fun i y H' hi hy => ?_⟩
  obtain ⟨T, z, rfl, nT, rfl, hy⟩ := hy
  obtain ⟨v, h4, h5⟩ := h3.get (List.getElem?_eq_getElem hi)
  have h6 := hy vs ha
  rw [h4] at h6
  cases h6
  refine ⟨_, enD_get xs 0 i _ (List.getElem?_eq_getElem hi), same_upd nT, ?_⟩
  rw [Nat.zero_add]
  exact pair_new nT (by unfold DR; rfl) h5
def zpD : List D → List D → List D
  | x :: xs, y :: ys => .tup [x, y] :: zpD xs ys
  | _, _ => []
theorem zpD_len : ∀ (xs ys : List D), (zpD xs ys).length = min xs.length ys.length
  | x :: xs, y :: ys => by unfold zpD; rw [List.length_cons, zpD_len xs ys, List.length_cons, List.length_cons]; omega
  | [], _ => by unfold zpD; simp
  | _ :: _, [] => by unfold zpD; simp
theorem zpD_get : ∀ (xs ys : List D) (j : Nat) (x y : D), xs[j]? = some x → ys[j]? = some y → (zpD xs ys)[j]? = some (.tup [x, y])
  | a :: xs, b :: ys, 0, x, y, h, h' => by
    have e : a = x := by simpa using h
    have e' : b = y := by simpa using h'
    subst e e'
    unfold zpD
    rfl
  | a :: xs, b :: ys, j + 1, x, y, h, h' => by
    unfold zpD
    rw [List.getElem?_cons_succ]
    exact zpD_get xs ys j x y (by simpa using h) (by simpa using h')
  | [], _, _, _, _, h, _ => by simp at h
  | _ :: _, [], _, _, _, _, h => by simp at h
theorem it_zipT (h1 : SqT K H a vs) (h2 : DRs K F.r (Gd F env σ) H xs vs) (h1' : SqT K H b ws) (h2' : DRs K F.r (Gd F env σ) H ys ws) : ItOk K F env σ H (RZ.ItzT K a b) vw (zpD xs ys) := by
  intro Hn G' m x
  rw [zpD_len]
  have ha : SqT K Hn a vs := m.sqT h1
  have hb : SqT K Hn b ws := m.sqT h1'
  have h3 := h2.mono m
  have h3' := h2'.mono m
  have hl := h3.length
  have hl' := h3'.length
  refine ⟨fun i hi => ⟨vs, ws, vs[i]'(by omega), ws[i]'(by omega), ha, hb, by simp [show i < vs.length by omega], by simp [show i < ws.length by omega]⟩, ⟨vs, ws, ha, hb, by omega⟩, fun i y H' hi hy => ?_⟩
  obtain ⟨T, z, z', rfl, nT, rfl, hy, hy'⟩ := hy
  have hi1 : i < xs.length := by omega
  have hi2 : i < ys.length := by omega
  obtain ⟨v, h4, h5⟩ := h3.get (List.getElem?_eq_getElem hi1)
  obtain ⟨v', h4', h5'⟩ := h3'.get (List.getElem?_eq_getElem hi2)
  have h6 := hy vs ha
  have h6' := hy' ws hb
  rw [h4] at h6
  rw [h4'] at h6'
  cases h6; cases h6'
  exact ⟨_, zpD_get xs ys i _ _ (List.getElem?_eq_getElem hi1) (List.getElem?_eq_getElem hi2), same_upd nT, pair_new nT h5 h5'⟩
theorem it_zip (h1 : H a = some (.lst vs)) (h2 : DRs K F.r (Gd F env σ) H xs vs) (hv : vw = true → F.r ≠ some a) (hg : vw = false → Gd F env σ a)
    (h1' : H b = some (.lst ws)) (h2' : DRs K F.r (Gd F env σ) H ys ws) (hv' : vw = true → F.r ≠ some b) (hg' : vw = false → Gd F env σ b) : ItOk K F env σ H (Itz K a b) vw (zpD xs ys) := by
  intro Hn G' m x
  rw [zpD_len]
  have ha : Hn a = some (.lst vs) := by
    cases vw with
    | true => exact x rfl a _ h1 (hv rfl)
    | false => exact (m.2 a vs h1 (hg rfl)).1
  have hb : Hn b = some (.lst ws) := by
    cases vw with
    | true => exact x rfl b _ h1' (hv' rfl)
    | false => exact (m.2 b ws h1' (hg' rfl)).1
  have h3 := h2.mono m
  have h3' := h2'.mono m
  have hl := h3.length
  have hl' := h3'.length
  refine ⟨fun i hi => ⟨vs, ws, vs[i]'(by omega), ws[i]'(by omega), .of ha, .of hb, by simp [show i < vs.length by omega], by simp [show i < ws.length by omega]⟩, ⟨vs, ws, .of ha, .of hb, by omega⟩, fun i y H' hi hy => ?_⟩
  obtain ⟨T, z, z', rfl, nT, rfl, hy, hy'⟩ := hy
  have hi1 : i < xs.length := by omega
  have hi2 : i < ys.length := by omega
  obtain ⟨v, h4, h5⟩ := h3.get (List.getElem?_eq_getElem hi1)
  obtain ⟨v', h4', h5'⟩ := h3'.get (List.getElem?_eq_getElem hi2)
  have h6 := hy vs (.of ha)
  have h6' := hy' ws (.of hb)
  rw [h4] at h6
  rw [h4'] at h6'
  cases h6; cases h6'
  exact ⟨_, zpD_get xs ys i _ _ (List.getElem?_eq_getElem hi1) (List.getElem?_eq_getElem hi2), same_upd nT, pair_new nT h5 h5'⟩
end
def iEn (fr : FA) : FI := fun env s => match fr env s with
  | some ([.lst xs], s') => some (false, enD 0 xs, s')
  | some ([.vw xs], s') => some (true, enD 0 xs, s')
  | some ([.tup xs], s') => some (false, enD 0 xs, s')
  | _ => none
/-- a list that can be walked: its items, whether a name owns it -/
def lsV : D → Option (Bool × List D)
  | .lst xs => some (false, xs)
  | .vw xs => some (true, xs)
  | _ => none
def iZp (fr : FA) : FI := fun env s => match fr env s with
  | some ([.tup xs, .tup ys], s') => some (false, zpD xs ys, s')
  | some ([.lst xs, .lst ys], s') => some (false, zpD xs ys, s')
  | _ => none
section
variable {X : Cx} {a b c e tg : Expr} {es : List Expr} {fa fb fc f : FE} {pos p tpos : Pos} {elts : List Expr} {kk : Nat}
theorem ji_enum {fr : FA} (hg : Gl X "enumerate") (hm : X.mg "enumerate" = none) (h : JA X [e] fr) (hs : starEach [e] X.env = [(false, eval e X.env)] := by rfl) : JI X (.Tuple elts kk tpos) (.Call (.Name "enumerate" p) [e] [] pos) (iEn fr) :=
  ⟨piW (piOr (pi_enum hg hm h.p hs) (pi_enumT hg hm h.p hs)) fun σ H Q ⟨F, env, s, vw, ds, s', R, e, q⟩ => by
    unfold iEn at e
    split at e
    · rename_i xs s1 e1
      cases e
      refine .inl ⟨F, env, s, [.lst xs], s', R, e1, fun vs H1 x1 R1 d1 => ?_⟩
      obtain ⟨u, rfl, d2⟩ := d1.one
      have d2 := DV.to d2 rfl
      unfold DR at d2
      obtain ⟨a, vs, rfl, h1, h2, h3⟩ := d2
      exact ⟨a, vs, rfl, .of h1, q _ H1 x1 R1 (it_enum h1 h3 (fun z => nomatch z) fun _ => h2)⟩
    · rename_i xs s1 e1
      cases e
      refine .inl ⟨F, env, s, [.vw xs], s', R, e1, fun vs H1 x1 R1 d1 => ?_⟩
      obtain ⟨u, rfl, d2⟩ := d1.one
      obtain ⟨a, vs, rfl, h1, h2, h3, h4⟩ := d2
      exact ⟨a, vs, rfl, .of h1, q _ H1 x1 R1 (it_enum h1 h2 (fun _ => h4) fun z => nomatch z)⟩
    · rename_i xs s1 e1
      cases e
      refine .inr ⟨F, env, s, [.tup xs], s', R, e1, fun vs H1 x1 R1 d1 => ?_⟩
      obtain ⟨u, rfl, d2⟩ := d1.one
      obtain ⟨a, vs, rfl, h1, h3⟩ := d2.tup
      exact ⟨a, vs, rfl, h1, q _ H1 x1 R1 (it_enumT h1 h3)⟩
    · cases e⟩
theorem ji_zip {fr : FA} (hg : Gl X "zip") (hm : X.mg "zip" = none) (h : JA X [a, b] fr) (hs : starEach [a, b] X.env = (false, eval a X.env) :: starEach [b] X.env := by rfl) (hpl : (backTo pos (starEach [b] X.env)).any (·.1) = false := by rfl) :
    JI X (.Tuple elts kk tpos) (.Call (.Name "zip" p) [a, b] [] pos) (iZp fr) :=
  ⟨piW (RZ.pi_zipA hg hm h.p hs hpl) fun σ H Q ⟨F, env, s, vw, ds, s', R, e, q⟩ => by
    unfold iZp at e
    split at e
    · rename_i xs ys s1 e1
      cases e
      refine ⟨F, env, s, _, s', R, e1, fun vs H1 x1 R1 d1 => ?_⟩
      obtain ⟨u, u', rfl, d2, d2'⟩ := d1.two
      obtain ⟨a, vs, rfl, h1, h3⟩ := d2.tup
      obtain ⟨b, ws, rfl, h1', h3'⟩ := d2'.tup
      exact ⟨a, b, vs, ws, rfl, .inr ⟨h1, h1', q _ H1 x1 R1 (it_zipT h1 h3 h1' h3')⟩⟩
    · rename_i xs ys s1 e1
      cases e
      refine ⟨F, env, s, _, s', R, e1, fun vs H1 x1 R1 d1 => ?_⟩
      obtain ⟨u, u', rfl, d2, d2'⟩ := d1.two
      have d2 := DV.to d2 rfl
      unfold DR at d2
      obtain ⟨a, vs, rfl, h1, h2, h3⟩ := d2
      have d2' := DV.to d2' rfl
      unfold DR at d2'
      obtain ⟨b, ws, rfl, h1', h2', h3'⟩ := d2'
      exact ⟨a, b, vs, ws, rfl, .inl ⟨.of h1, .of h1', q _ H1 x1 R1 (it_zip h1 h3 (fun z => nomatch z) (fun _ => h2) h1' h3' (fun z => nomatch z) fun _ => h2')⟩⟩
    · cases e⟩
end
end DL

namespace DL
open PySem PySem.Spec L2

/-! ### the row of draws -/
theorem Rep.row_at {K : PySem.W.Frag} {F : Fr} {env : Ev} {s : RS} {σ : L2.St} {H : Hp} {i : Nat} (R : Rep K F env s σ H) (e : env[i]? = some (.val .row)) :
    ∃ a q, F.r = some a ∧ σ[i]? = some (some (.ref a)) ∧ H a = some (.lst [.ref q, .int s.i, .int s.sd, .int s.c]) ∧ Scr K H q (s.xs.map V.int) := by
  obtain ⟨v, h1, h2⟩ := R.val i _ e
  unfold DR at h2
  obtain ⟨a, rfl, h3⟩ := h2
  obtain ⟨q, h4, h5⟩ := R.row a h3
  exact ⟨a, q, h3, h1, h4, h5⟩
def RS.at (s : RS) : Int → Option Int
  | 1 => some s.i
  | 2 => some s.sd
  | 3 => some s.c
  | _ => none
def RS.put (s : RS) (z : Int) : Int → Option RS
  | 1 => some { s with i := z }
  | 2 => some { s with sd := z }
  | 3 => some { s with c := z }
  | _ => none
def isRow : Option Sl → Bool
  | some (.val .row) => true
  | _ => false
theorem isRow_eq {o : Option Sl} (h : isRow o = true) : o = some (.val .row) := by
  unfold isRow at h
  split at h
  · rfl
  · cases h
def fRow (i : Nat) (k : Int) : FE := fun env s => if isRow env[i]? = true then (match s.at k with
  | some z => some (.int z, s)
  | none => none) else none
theorem Scr.sq {K : PySem.W.Frag} {H : Hp} {q : Addr} {xs : List V} (h : Scr K H q xs) : SqL K H q xs := h H fun _ _ z => z
section
variable {X : Cx} {a b c e : Expr} {es : List Expr} {fa fb fc f : FE} {pos p p1 p2 p3 p4 : Pos}
theorem je_row (i : Nat) {x : Str} {k : Int} {j : Nat} (hN : X.N[i]? = some x := by rfl) (hv : Vis X.env.scope x := by first | exact Or.inl rfl | exact Or.inr (Or.inl rfl) | exact Or.inr (Or.inr rfl)) (hd : (x == ("__debug__" : Str)) = false := by decide)
    (hcd : (x == ("__classdict__" : Str)) = false := by decide) : JE X (.Subscript (.Name x p1) (.Constant (.int k) j p2) pos) (fRow i k) :=
  ⟨peW (pe_ix ix_list (pv (pos := p1) i hN hv hd hcd) pe_int (by intro _ _; rfl)) fun σ H Q ⟨F, env, s, d, s', R, e, q⟩ => by
    unfold fRow at e
    split at e
    · rename_i hr
      split at e
      · rename_i z ez
        cases e
        obtain ⟨a, b, h1, h2, h3, h4⟩ := R.row_at (isRow_eq hr)
        refine ⟨.ref a, h2, a, _, k, .int z, rfl, rfl, .of h3, ?_, q _ H Ext.refl R DV.mki⟩
        unfold RS.at at ez
        split at ez <;> cases ez <;> rfl
      · cases e
    · cases e⟩
def fRowLen (i : Nat) : FE := fun env s => if isRow env[i]? = true then some (.int s.xs.length, s) else none
theorem je_rowlen (i : Nat) {x y : Str} {j : Nat} (hg : Gl X y) (hm : X.mg y = none) (hb : bootBuiltins y = some (.builtin "len")) (hN : X.N[i]? = some x := by rfl) (hv : Vis X.env.scope x := by first | exact Or.inl rfl | exact Or.inr (Or.inl rfl) | exact Or.inr (Or.inr rfl)) (hd : (x == ("__debug__" : Str)) = false := by decide)
    (hcd : (x == ("__classdict__" : Str)) = false := by decide) (hn : y ≠ "__name__" := by decide) (hdb : (y == ("__debug__" : Str)) = false := by decide)
    (he : starEach [.Subscript (.Name x p1) (.Constant (.int 0) j p2) p3] X.env = (false, eval (.Subscript (.Name x p1) (.Constant (.int 0) j p2) p3) X.env) :: starEach [] X.env := by rfl) (hpl : (backTo pos (starEach [] X.env)).any (·.1) = false := by rfl) :
    JE X (.Call (.Name y p) [.Subscript (.Name x p1) (.Constant (.int 0) j p2) p3] [] pos) (fRowLen i) :=
  ⟨peW (pe_callB call_len_seq hg hm hb (pa_cons (pe_ix ix_list (pv (pos := p1) i hN hv hd hcd) pe_int (by intro _ _; rfl)) pa_nil he) hn hdb he hpl) fun σ H Q ⟨F, env, s, d, s', R, e, q⟩ => by
    unfold fRowLen at e
    split at e
    · rename_i hr
      cases e
      obtain ⟨a, b, h1, h2, h3, h4⟩ := R.row_at (isRow_eq hr)
      refine ⟨.ref a, h2, a, _, 0, .ref b, rfl, rfl, .of h3, rfl, b, _, rfl, .inl h4.sq, ?_⟩
      rw [List.length_map]
      exact q _ H Ext.refl R DV.mki
    · cases e⟩
def fRowAt (i : Nat) (f : FE) : FE := fun env s => if isRow env[i]? = true then (match f env s with
  | some (.int k, s1) => (match atI s.xs k with
    | some z => some (.int z, s1)
    | none => none)
  | _ => none) else none
theorem atI_map {xs : List Int} {k z : Int} (h : atI xs k = some z) : atI (xs.map V.int) k = some (.int z) := by
  unfold atI at h ⊢
  rw [List.length_map]
  cases q : ixN xs.length k with
  | none => rw [q] at h; cases h
  | some j =>
    rw [q] at h
    show (xs.map V.int)[j]? = _
    rw [List.getElem?_map]
    have h' : xs[j]? = some z := h
    rw [h']
    rfl
theorem je_rowat (i : Nat) {x : Str} {j : Nat} (hf : JE X e f) (hs : PlainIx e := by intro _ _; rfl) (hN : X.N[i]? = some x := by rfl) (hv : Vis X.env.scope x := by first | exact Or.inl rfl | exact Or.inr (Or.inl rfl) | exact Or.inr (Or.inr rfl)) (hd : (x == ("__debug__" : Str)) = false := by decide)
    (hcd : (x == ("__classdict__" : Str)) = false := by decide) : JE X (.Subscript (.Subscript (.Name x p1) (.Constant (.int 0) j p2) p3) e pos) (fRowAt i f) :=
  ⟨peW (pe_ix ix_list (pe_ix ix_list (pv (pos := p1) i hN hv hd hcd) pe_int (by intro _ _; rfl)) hf.p hs) fun σ H Q ⟨F, env, s, d, s', R, e, q⟩ => by
    unfold fRowAt at e
    split at e
    · rename_i hr
      split at e
      · rename_i k s1 e1
        split at e
        · rename_i z ez
          cases e
          obtain ⟨a, b, h1, h2, h3, h4⟩ := R.row_at (isRow_eq hr)
          refine ⟨.ref a, h2, a, _, 0, .ref b, rfl, rfl, .of h3, rfl, F, env, s, .int k, s', R, e1, fun v H1 x1 R1 d1 => ?_⟩
          rw [d1.int]
          have h5 : SqL X.K H1 b (s.xs.map V.int) := (h4.ext fun o u hz => x1 _ _ hz fun z => by
            have : b = a := by rw [h1] at z; exact (Option.some.inj z).symm
            subst this
            rw [h3] at hz; cases hz).sq
          exact ⟨b, _, k, .int z, rfl, rfl, h5, atI_map ez, q _ H1 x1 R1 DV.mki⟩
        · cases e
      · cases e
    · cases e⟩
def sRow (i : Nat) (k : Int) (f : FE) : FS := fun env s => if isRow env[i]? = true then (match f env s with
  | some (.int z, s1) => (match s1.put z k with
    | some s2 => .nx env s2
    | none => .no)
  | _ => .no) else .no
theorem js_row (i : Nat) {x : Str} {k : Int} {j : Nat} (hf : JE X e f) (hN : X.N[i]? = some x := by rfl) (hv : Vis X.env.scope x := by first | exact Or.inl rfl | exact Or.inr (Or.inl rfl) | exact Or.inr (Or.inr rfl)) (hd : (x == ("__debug__" : Str)) = false := by decide)
    (hcd : (x == ("__classdict__" : Str)) = false := by decide)
    (ha : ∀ v, assign (.Subscript (.Name x p1) (.Constant (.int k) j p2) p3) X.env v = (do
      let ov ← holding [v] (eval (.Name x p1) X.env)
      let iv ← holding [v, ov] (eval (.Constant (.int k) j p2) X.env)
      standAt p3
      holding [v, ov, iv] (setItem ov iv v)
      release [v, ov, iv] []) := by intro _; rfl)
    (hs : swapsWithSole [.Subscript (.Name x p1) (.Constant (.int k) j p2) p3] e pos.line X.env = pure false := by rfl) (hw : swappedStores [.Subscript (.Name x p1) (.Constant (.int k) j p2) p3] e X.env = pure none := by rfl)
    (h1 : (assignEach [.Subscript (.Name x p1) (.Constant (.int k) j p2) p3] X.env).map (·.2) = [assign (.Subscript (.Name x p1) (.Constant (.int k) j p2) p3) X.env] := by rfl) :
    JS X (.Assign [.Subscript (.Name x p1) (.Constant (.int k) j p2) p3] e pos) (sRow i k f) :=
  ⟨psW (ps_asg hf.p (pg_sub (pv (pos := p1) i hN hv hd hcd) pe_int set_list ha) hs hw h1) fun D σ H ⟨F, env, s, R, q⟩ => by
    unfold sRow at q
    split at q
    · rename_i hr
      split at q
      · rename_i z s1 e1
        split at q
        · rename_i s2 e2
          refine ⟨F, env, s, .int z, s1, R, e1, fun v H1 x1 R1 d1 => ?_⟩
          obtain ⟨a, b, h1, h2, h3, h4⟩ := R1.row_at (isRow_eq hr)
          rw [d1.int]
          have fin : ∀ ws, (upd H1 a (.lst ws)) a = some (.lst [.ref b, .int s2.i, .int s2.sd, .int s2.c]) → s2.xs = s1.xs → D.nx σ (upd H1 a (.lst ws)) := fun ws hws hxs => by
            have xt : Ext F.r H1 (upd H1 a (.lst ws)) := fun b' o ho hn => by
              have : b' ≠ a := fun z => hn (z ▸ h1)
              rw [upd_ne this]; exact ho
            have ro : RowOk X.K F.r (upd H1 a (.lst ws)) s2 := fun a' ha' => by
              have : a = a' := by rw [h1] at ha'; exact Option.some.inj ha'
              subst this
              refine ⟨b, hws, ?_⟩
              rw [hxs]
              exact h4.ext fun o u hz => xt _ _ hz fun z => by
                have : b = a := by rw [h1] at z; exact (Option.some.inj z).symm
                subst this
                rw [h3] at hz; cases hz
            exact q σ _ (R1.grow xt ro) (R.mono (x1.trans xt))
          unfold RS.put at e2
          split at e2
          · cases e2
            exact ⟨.ref a, h2, a, _, 1, 1, rfl, rfl, h3, rfl, fin _ (by rw [upd_same]; rfl) rfl⟩
          · cases e2
            exact ⟨.ref a, h2, a, _, 2, 2, rfl, rfl, h3, rfl, fin _ (by rw [upd_same]; rfl) rfl⟩
          · cases e2
            exact ⟨.ref a, h2, a, _, 3, 3, rfl, rfl, h3, rfl, fin _ (by rw [upd_same]; rfl) rfl⟩
          · cases e2
        · exact q.elim
      · exact q.elim
    · exact q.elim⟩
end

/-! ### a law -/
def spLaw (K : PySem.W.Frag) : Sp := fun vs H Q _ => ∃ (a : Addr) (ns : List Int), vs = [.ref a] ∧ SqL K H a (ns.map V.int) ∧ Only H ∧ ns.length ≤ 63 ∧ ∀ H', Q (.bl true) H'
theorem scr_only {K : PySem.W.Frag} {H : Hp} {a : Addr} {xs : List V} (h : SqL K H a xs) (o : Only H) : Scr K H a xs := fun H' k => by
  rcases h with (h | ⟨b, h⟩) | h
  · rcases o a with z | ⟨b, ys, z⟩
    · rw [z] at h; cases h
    · rw [z] at h; cases h
  · exact .inl (.inr ⟨b, k _ _ h⟩)
  · exact .inr h
def lawEnv (n : Nat) : Ev := [.no, .val .row] ++ List.replicate n .no
theorem law_run {K : PySem.W.Frag} {g : FS} {n : Nat} {seed : Int} {N : List Str} (hN : N.length = n + 2) {t : TS} {vs : List V} {H : Hp} {Q : VK} {E : XK} (h : spLaw K vs H Q E)
    (hlaw : ∀ ns : List Int, ns.length ≤ 63 → ∃ s', g (lawEnv n) ⟨ns, 0, seed, 0⟩ = .ret (.bl true) s')
    (ht : t = tSeq (tAsg (tLst (tCons (tVar 0) (tCons (tC (.int 0)) (tCons (tC (.int seed)) (tCons (tC (.int 0)) tNil))))) (gName 1)) (tS K g)) : t { nx := fun _ H' => Q .non H', rt := Q } (L2.start N vs) H := by
  subst ht
  obtain ⟨a, ns, rfl, hS, hO, hl, q⟩ := h
  obtain ⟨s', hs⟩ := hlaw ns hl
  have h0 : (L2.start N [.ref a])[0]? = some (some (.ref a)) := rfl
  refine ⟨.ref a, h0, by show 4 ≤ sizeLine; decide, fun p np => ?_⟩
  refine ⟨⟨upd H p (.lst [.ref a, .int 0, .int seed, .int 0]), fun _ => False, some p, fun _ => False⟩, lawEnv n, ⟨ns, 0, seed, 0⟩, ?_, ?_⟩
  · refine ⟨?_, Ext.refl, fun b hb => ?_, fun _ h => h.elim, fun i xs e => ?_, fun i j xs ys b e => ?_, fun i d e => ?_⟩
    · unfold lawEnv L2.start
      simp [hN]
    · cases hb
      refine ⟨a, upd_same, (scr_only hS hO).ext fun o u z => ?_⟩
      rw [upd_ne (ne_of_none z np)]; exact z
    · exfalso
      match i, e with
      | 0, e => cases e
      | 1, e => cases e
      | i + 2, e =>
        have e' : (List.replicate n Sl.no)[i]? = some (Sl.own xs) := e
        rw [List.getElem?_replicate] at e'
        split at e' <;> cases e'
    · exfalso
      match i, e with
      | 0, e => cases e
      | 1, e => cases e
      | i + 2, e =>
        have e' : (List.replicate n Sl.no)[i]? = some (Sl.own xs) := e
        rw [List.getElem?_replicate] at e'
        split at e' <;> cases e'
    · match i, e with
      | 0, e => cases e
      | 1, e =>
        cases e
        refine ⟨.ref p, ?_, by unfold DR; exact ⟨p, rfl, rfl⟩⟩
        unfold L2.start
        rw [List.getElem?_set_self (by simp [hN])]
      | i + 2, e =>
        have e' : (List.replicate n Sl.no)[i]? = some (Sl.val d) := e
        rw [List.getElem?_replicate] at e'
        split at e' <;> cases e'
  · rw [hs]
    intro v env σ H' R dd
    unfold DR at dd
    subst dd
    exact q H'
theorem mk_law {P : Program} {w : World} {K : PySem.W.Frag} {mg : Str → Option Value} {base : Heap} {x : Str} {st : Stmt} {f : Addr} {fd : FuncData} {N : List Str} {px : Str} {k n : Nat} {g : FS} {seed : Int} (F : C8.Def K mg x st f fd) (S : FnScope N [px] (C8.fnScope st)) (hN : N.length = n + 2)
    (hbody : ∀ (cdv : Value) (A : Around) (outer : List Env) (s : Shared) (H : Hp) (E : XK), Room k (A.deeper (PyProof.Rows.envOfC x (C8.fnScope st) s.heap.objs.size f cdv)) →
      PSs (cxOf C8.CX0 P w K mg base N x (C8.fnScope st) f cdv A outer s H E).nox (C8.fnBody st) (tSeq (tAsg (tLst (tCons (tVar 0) (tCons (tC (.int 0)) (tCons (tC (.int seed)) (tCons (tC (.int 0)) tNil))))) (gName 1)) (tS K g)))
    (hlaw : ∀ ns : List Int, ns.length ≤ 63 → ∃ s', g (lawEnv n) ⟨ns, 0, seed, 0⟩ = .ret (.bl true) s') :
    FnOk P w K mg base C8.CX0 (k + 1) f fd [px] (spLaw K) :=
  C8.fn0 F.fn S (fun vs H Q E h => by obtain ⟨a, ns, rfl, _⟩ := h; rfl) fun cdv A outer s H vs Q E hr h => ⟨_, hbody cdv A outer s H E hr, law_run hN h hlaw rfl⟩
/-- range(i, j, -1) -/
def rgN (lo : Int) : Nat → List D
  | 0 => []
  | n + 1 => .int lo :: rgN (lo - 1) n
theorem rgN_len : ∀ (n : Nat) (lo : Int), (rgN lo n).length = n
  | 0, _ => rfl
  | n + 1, lo => by unfold rgN; rw [List.length_cons, rgN_len n]
theorem rgN_get : ∀ (n i : Nat) (lo : Int), i < n → (rgN lo n)[i]? = some (.int (lo - i))
  | n + 1, 0, lo, _ => by unfold rgN; simp
  | n + 1, i + 1, lo, h => by
    unfold rgN
    rw [List.getElem?_cons_succ, rgN_get n i (lo - 1) (by omega)]
    congr 2
    omega
theorem it_rngN {K : PySem.W.Frag} {F : Fr} {env : Ev} {σ : L2.St} {H : Hp} {lo : Int} {n : Nat} {vw : Bool} : ItOk K F env σ H (Itc lo (-1) n) vw (rgN lo n) := by
  intro Hn G' m x
  rw [rgN_len]
  refine ⟨fun i hi => hi, Nat.le_refl _, fun i y H' hi hy => ?_⟩
  obtain ⟨rfl, rfl⟩ := hy
  refine ⟨_, rgN_get n i lo hi, Same.refl _, ?_⟩
  unfold DR
  congr 1
  omega
def iRg3 (fr : FA) : FI := fun env s => match fr env s with
  | some ([.int i, .int j, .int c], s') => if c = -1 ∧ -(2 ^ 61) ≤ i ∧ i ≤ 2 ^ 61 ∧ -(2 ^ 61) ≤ j ∧ j ≤ 2 ^ 61 then some (false, rgN i (i - j).toNat, s') else none
  | _ => none
theorem ji_range3 {X : Cx} {tg a b c : Expr} {p pos : Pos} {fr : FA} (hg : Gl X "range") (hm : X.mg "range" = none) (h : JA X [a, b, c] fr)
    (hs : starEach [a, b, c] X.env = (false, eval a X.env) :: starEach [b, c] X.env := by rfl) (hpl : (backTo pos (starEach [b, c] X.env)).any (·.1) = false := by rfl) : JI X tg (.Call (.Name "range" p) [a, b, c] [] pos) (iRg3 fr) :=
  ⟨piW (pi_range3 hg hm h.p hs hpl) fun σ H Q ⟨F, env, s, vw, ds, s', R, e, q⟩ => by
    unfold iRg3 at e
    split at e
    · rename_i i j c s1 e1
      split at e
      · rename_i hj
        cases e
        refine ⟨F, env, s, _, s', R, e1, fun vs H1 x1 R1 d1 => ?_⟩
        obtain ⟨v, ws, rfl, h1, h2⟩ := d1
        obtain ⟨u, u', rfl, h3, h4⟩ := DVs.two h2
        obtain ⟨rfl, h5, h6, h7, h8⟩ := hj
        rw [h1.int, h3.int, h4.int]
        exact ⟨i, j, -1, _, rfl, RgC.neg (by omega) (by omega) (by omega) (by omega), q _ H1 x1 R1 it_rngN⟩
      · cases e
    · cases e⟩
theorem sq_in {X : Cx} : OpR X (compareOp .In) (rIn X.K false) := op_in_seq
theorem sq_notin {X : Cx} : OpR X (compareOp .NotIn) (rIn X.K true) := op_notIn_seq
end DL

namespace DL
open PySem PySem.Spec L2 PyProof.Rows

/-! ### the law's own call; the heap behind the top has no seer -/
theorem hid_keep {h : Heap} {H : Hp} {a b : Addr} {o lo : Obj} (only : ∀ c, H c ≠ none → c = a) (la : h.get? a = some lo) (e : h.get? b = some o) (ne : o ≠ lo) :
    (hidT h H).get? b = some o := by
  by_cases q : H b = none
  · exact hidT_get e q
  · have z := only b q
    rw [z, la] at e
    exact absurd (Option.some.inj e).symm ne
theorem hid_ns {h : Heap} {H : Hp} {a b : Addr} {vs : List Value} {m : Str → Option Value} (only : ∀ c, H c ≠ none → c = a)
    (la : h.get? a = some { cls := .type "list", data := .seq vs.toArray }) (x : h.Ns b m) : (hidT h H).Ns b m := by
  obtain ⟨o, es, ep, e, d, rest⟩ := x
  refine ⟨o, es, ep, hid_keep only la e ?_, d, rest⟩
  rintro rfl
  cases (show Data.seq vs.toArray _ = Data.dict es ep from d)
theorem hid_seer {h : Heap} {H : Hp} {a : Addr} {vs : List Value} (only : ∀ c, H c ≠ none → c = a)
    (la : h.get? a = some { cls := .type "list", data := .seq vs.toArray }) (x : h.NoSeer) : (hidT h H).NoSeer := by
  obtain ⟨⟨mc, c1, c2⟩, ⟨mm, m1, m2⟩, ⟨mb, b1, b2⟩, ⟨g, bm, ob, g1, g2, g3, g4, g5⟩⟩ := x
  refine ⟨⟨mc, hid_ns only la c1, c2⟩, ⟨mm, hid_ns only la m1, m2⟩, ⟨mb, hid_ns only la b1, b2⟩, ⟨g, bm, ob, hid_ns only la g1, g2, hid_keep only la g3 ?_, g4, g5⟩⟩
  rintro rfl
  cases g5
/-- a heap of the layer in which at most the script at a is tracked, as a frozen list -/
structure Alone (P : Program) (w : World) (K : PySem.W.Frag) (h : Heap) (a : Addr) (ns : List Int) (H : Hp) : Prop where
  only : ∀ c, H c ≠ none → c = a
  kind : Only H
  seq : SqL K H a (ns.map V.int)
  hok : HOk P w H h
  away : H a ≠ none → K.lookup a = none
theorem alone_of {P : Program} {w : World} {K : PySem.W.Frag} {h : Heap} {a : Addr} {vs : List Value} {ns : List Int} (KX : K.In h)
    (la : h.get? a = some { cls := .type "list", data := .seq vs.toArray }) (hi : IntsAre vs ns) (hl : ns.length ≤ sizeLine) : ∃ H, Alone P w K h a ns H := by
  have rv := vals_ints hi
  have lv := hi.length
  cases hk : K.lookup a with
  | some o =>
    have e := KX a o hk
    rw [la] at e
    cases e
    exact ⟨fun _ => none, fun c z => absurd rfl z, fun _ => .inl rfl, .inr ⟨_, vs.toArray, _, hk, rfl, rfl, rfl, by rw [List.size_toArray, lv]; exact hl, by simpa using rv⟩,
      fun b u z => (nomatch (show (none : Option HO) = some u from z)), fun z => absurd rfl z⟩
  | none =>
    let lo : Obj := { cls := .type "list", data := .seq vs.toArray }
    let H : Hp := fun c => if c = a then some (.frz lo (.lst (ns.map V.int))) else none
    have at_a : H a = some (.frz lo (.lst (ns.map V.int))) := if_pos rfl
    have off : ∀ c, c ≠ a → H c = none := fun c hc => if_neg hc
    refine ⟨H, fun c z => Classical.byContradiction fun hc => z (off c hc), fun c => ?_, .inl (.inr ⟨lo, at_a⟩), fun b u z => ?_, fun _ => hk⟩
    · by_cases hc : c = a
      · subst hc; exact .inr ⟨_, _, at_a⟩
      · exact .inl (off c hc)
    · by_cases hc : b = a
      · subst hc
        rw [at_a] at z
        cases z
        exact ⟨la, by rw [List.length_map]; exact hl, vs, _, rv, la⟩
      · rw [off b hc] at z; cases z
theorem law_go {P : Program} {w : World} {K : PySem.W.Frag} {mg mb : Str → Option Value} {k : Nat} {fa a : Addr} {fd : FuncData} {x : Str} {s : Shared} {vs : List Value} {ns : List Int}
    (KX : K.In s.heap) (g1 : s.heap.Ns mainGlobals mg) (g2 : s.heap.Ns builtinsNs mb) (g3 : ∀ y : Str, y ≠ "__name__" → mb y = bootBuiltins y) (g4 : s.heap.NoLimit) (g5 : s.heap.NoSeer) (g6 : s.gens = #[])
    (la : s.heap.get? a = some { cls := .type "list", data := .seq vs.toArray }) (hi : IntsAre vs ns) (hl : ns.length ≤ 63) (hr : Room k callerA)
    (hb : ∀ (s : Shared) (u : Value), BindsTo s fd ⟨[u], []⟩ [(x, u)])
    (F : ∀ base : Heap, K.In base → base.Ns mainGlobals mg → base.NoSeer → FnOk P w K mg base C8.CX0 k fa fd [x] (spLaw K)) :
    codeAny (model P w) callerA (.call (.ref fa) ⟨[.ref a], []⟩) (fun r s' => r = .ok (.ret (.bool true)) ∧ OldK s.heap s'.heap ∧ s'.os = s.os ∧ AllBare s'.gens) s := by
  obtain ⟨H, A⟩ := alone_of (P := P) (w := w) KX la hi (Nat.le_trans hl (by decide))
  have kin : K.In (hidT s.heap H) := fun b o e => by
    by_cases q : H b = none
    · exact hidT_get (KX b o e) q
    · have z := A.only b q
      subst z
      rw [A.away q] at e; cases e
  have ns1 := fun {b m} (z : s.heap.Ns b m) => hid_ns A.only la z
  have md : Mod K mg (hidT s.heap H) := ⟨kin, ns1 g1, ⟨mb, ns1 g2, g3⟩, by obtain ⟨mc, q1, q2⟩ := g4; exact ⟨mc, ns1 q1, q2⟩⟩
  have env : Env0 P w K mg (hidT s.heap H) callerA [] s H :=
    { frames := rfl, mod := md, bs := fun b o e => of_hidT e, bsz := Nat.le_of_eq (hidT_size _ _), funs := trivial, frf := fun b hb => (nomatch hb), hok := A.hok, bare := .of_eq g6 }
  have run := (F _ kin (ns1 g1) (hid_seer A.only la g5)).run callerA [] s H ⟨[.ref a], []⟩ [.ref a] [.ref a] (fun v _ => v = .bl true) (fun _ _ _ => False) hr env (hb s (.ref a)) (.cons rfl .nil)
    ⟨a, ns, rfl, A.seq, A.kind, hl, fun _ => rfl⟩
  refine codeAny_mono run fun r s' h => ?_
  rcases r with e | (_ | _ | _ | u)
  · exact h.elim
  · exact h.elim
  · exact h.elim
  · exact h.elim
  · obtain ⟨v, H', os, bare, un, hok', r', q⟩ := h
    subst q
    refine ⟨by rw [show u = Value.bool true from r'], .of_keep fun b o e => ?_, os, bare⟩
    rcases A.kind b with z | ⟨ob, xs, z⟩
    · exact un.keep b o e z (fun q => nomatch q) (by simp)
    · have e1 := (A.hok b _ z).1
      rw [e] at e1
      rw [Option.some.inj e1]
      exact (hok' b _ (un.frzs b ob _ z)).1
/-- what k_head leaves, from the promise of the law's def -/
theorem law_walk {l : PySem.W.OpenLaw} {k : Nat} {q : Program} {loose : List Str} {XP : (Str → Option Value) → Heap → Prop} {YP : World → Heap → Prop} {d : DefRec} {K : Params → PySem.W.Frag} {x : Str}
    (hn : l.most = some 63) (hdf : d.params.defaults = []) (hi : importsNone q = true) (hr : Room k callerA) (hY : ∀ (w : World) (h : Heap), YP w h → (K w.params).In h)
    (F : ∀ (w : World) (mg : Str → Option Value) (fa : Addr) (h : Heap), (K w.params).In h → h.Ns mainGlobals mg → mg d.name = some (.ref fa) →
      ∃ fd : FuncData, (∀ (s : Shared) (u : Value), BindsTo s fd ⟨[u], []⟩ [(x, u)]) ∧
        ∀ base : Heap, (K w.params).In base → base.Ns mainGlobals mg → base.NoSeer → FnOk l.prog w (K w.params) mg base C8.CX0 k fa fd [x] (spLaw (K w.params))) :
    PySem.W.WalkO q loose XP YP l.row.toRowW d [] (fun f vs => PySem.call f vs) := by
  apply Att.attach_call hn hdf
  intro w s0 s1 mg mb fa o pm cd doc a vs ns G Y _ _ _ hmg la hints hlen hg
  obtain ⟨fd, hb, hF⟩ := F w mg fa _ (hY w _ Y) G.T.g hmg
  exact law_go (hY w _ Y) G.T.g G.T.b G.T.builtins G.T.nolimit (G.T.seer hi) hg la hints hlen hr hb hF

/-! ### constants -/
def Cv (K : PySem.W.Frag) (u : Value) (d : D) : Prop := ∃ v, RelV v u ∧ ∀ r G H, DR K r G H d v
def Cvs (K : PySem.W.Frag) (us : List Value) (ds : List D) : Prop := ∃ vs, Vals vs us ∧ ∀ r G H, DRs K r G H ds vs
section
variable {K : PySem.W.Frag}
theorem cv_int {n : Int} {t : Tok} : Cv K (.int n t) (.int n) := ⟨.int n, ⟨t, rfl⟩, fun _ _ _ => by unfold DR; rfl⟩
theorem cv_str {n : Str} {t : Tok} : Cv K (.str n t) (.str n) := ⟨.str n, ⟨t, rfl⟩, fun _ _ _ => by unfold DR; rfl⟩
theorem cvs_nil : Cvs K [] [] := ⟨[], .nil, fun _ _ _ => by unfold DRs; rfl⟩
theorem cvs_cons {u : Value} {us : List Value} {d : D} {ds : List D} (h1 : Cv K u d) (h2 : Cvs K us ds) : Cvs K (u :: us) (d :: ds) := by
  obtain ⟨v, a, b⟩ := h1
  obtain ⟨vs, a', b'⟩ := h2
  exact ⟨v :: vs, .cons a a', fun r G H => DRs.cons (b r G H) (b' r G H)⟩
theorem cv_tup {a : Addr} {od : Option Addr} {its : Array Value} {n : Nat} {sl : Array (Option Value)} {ds : List D} (l : K.lookup a = some ⟨.type "tuple", od, .seq its n, sl⟩) (h : Cvs K its.toList ds) (hz : its.size ≤ sizeLine := by exact Nat.le_of_ble_eq_true rfl) : Cv K (.ref a) (.tup ds) := by
  obtain ⟨vs, a1, b1⟩ := h
  exact ⟨.ref a, rfl, fun r G H => by unfold DR; exact ⟨a, vs, rfl, .inr ⟨_, its, n, l, rfl, rfl, hz, a1⟩, b1 r G H⟩⟩
theorem glb_of {h : Heap} {mg : Str → Option Value} {x : Str} {u : Value} {d : D} (X : K.In h) (G : h.Ns mainGlobals mg) (a : PySem.W.nsIn K mainGlobals x = some (some u)) (c : Cv K u d) : Glb K mg x d := by
  obtain ⟨v, c1, c2⟩ := c
  exact ⟨v, u, PySem.W.mg_of X G a, c1, c2⟩
theorem def_of {h : Heap} {mg : Str → Option Value} {x : Str} {st : Stmt} {f : Addr} {oc : Value} {od an : Option Addr} {osl : Array (Option Value)} {kV doc pm cdv ct : Value} (X : K.In h) (G : h.Ns mainGlobals mg)
    (a : PySem.W.nsIn K mainGlobals x = some (some (.ref f)))
    (l : K.lookup f = some ⟨oc, od, .func (PySem.W.fnOf x x (C8.fnArgs st) (C8.fnBody st) (C8.fnScope st) .none kV doc pm an cdv ct), osl⟩)
    (c : PySem.W.codeIn K cdv x = true) (k : PySem.W.keepIn K (.ref f) = true) : C8.Def K mg x st f (PySem.W.fnOf x x (C8.fnArgs st) (C8.fnBody st) (C8.fnScope st) .none kV doc pm an cdv ct) :=
  ⟨⟨⟨oc, od, .none, kV, doc, pm, an, cdv, ct, osl, rfl, l, c⟩⟩, PySem.W.mg_of X G a, k⟩
end
end DL

namespace DL
open PySem L2
/-! evaluation of the data functions -/
section
variable {fa fb fc : FE} {fr : FA} {t u : FT} {env : Ev} {s : RS} {g k : FS} {i : Nat} {d : D}
@[simp] theorem ev_V : fV i env s = (match env[i]? with | some (.val d) => some (d, s) | some (.own xs) => some (.vw xs, s) | _ => none) := rfl
@[simp] theorem ev_C : fC d env s = some (d, s) := rfl
@[simp] theorem ev_f1 {o : D → Option D} : f1 fa o env s = (match fa env s with | none => none | some (x, s1) => match o x with | none => none | some y => some (y, s1)) := by unfold f1; rfl
@[simp] theorem ev_f2 {o : D → D → Option D} : f2 fa fb o env s = (match fa env s with | none => none | some (x, s1) => match fb env s1 with | none => none | some (y, s2) => match o x y with | none => none | some z => some (z, s2)) := by unfold f2; rfl
@[simp] theorem ev_f3 {o o' : D → D → Option D} : f3 fa fb fc o o' env s = (match fa env s with | none => none | some (x, s1) => match fb env s1 with | none => none | some (y, s2) => match o x y with | some (.bl true) => (match fc env s2 with | none => none | some (z, s3) => match o' y z with | none => none | some d => some (d, s3)) | some (.bl false) => some (.bl false, s2) | _ => none) := rfl
@[simp] theorem ev_bt : bt fa env s = (match fa env s with | some (.bl b, s') => some (b, s') | _ => none) := rfl
@[simp] theorem ev_nil : fNil env s = some ([], s) := rfl
@[simp] theorem ev_cons : fCons fa fr env s = (match fa env s with | none => none | some (x, s1) => match fr env s1 with | none => none | some (xs, s2) => some (x :: xs, s2)) := by unfold fCons; rfl
@[simp] theorem ev_star : fStar fa fr env s = (match fa env s with | none => none | some (x, s1) => match its x with | none => none | some xs => match fr env s1 with | none => none | some (ys, s2) => some (xs ++ ys, s2)) := by unfold fStar; rfl
@[simp] theorem ev_A1 {o : List D → Option D} : fA1 fr o env s = (match fr env s with | none => none | some (xs, s1) => match o xs with | none => none | some y => some (y, s1)) := by unfold fA1; rfl
@[simp] theorem ev_and : tAndF t u env s = (match t env s with | none => none | some (true, s1) => u env s1 | some (false, s1) => some (false, s1)) := rfl
@[simp] theorem ev_or : tOrF t u env s = (match t env s with | none => none | some (true, s1) => some (true, s1) | some (false, s1) => u env s1) := rfl
@[simp] theorem ev_not : tNotF t env s = (match t env s with | none => none | some (b, s1) => some (!b, s1)) := rfl
@[simp] theorem ev_fand : fAnd fa fb env s = (match fa env s with | some (.bl true, s1) => fb env s1 | some (.bl false, s1) => some (.bl false, s1) | _ => none) := rfl
@[simp] theorem ev_for : fOr fa fb env s = (match fa env s with | some (.bl true, s1) => some (.bl true, s1) | some (.bl false, s1) => fb env s1 | _ => none) := rfl
@[simp] theorem ev_fif : fIf t fa fb env s = (match t env s with | none => none | some (true, s1) => fa env s1 | some (false, s1) => fb env s1) := by unfold fIf; rfl
@[simp] theorem ev_call {n : Nat} {fn : Fn} : fCall n fr fn env s = (match fr env s with | none => none | some (xs, s1) => if xs.all D.st = true ∧ xs.length = n then fn xs s1 else none) := by unfold fCall; rfl
/-! statements -/
@[simp] theorem ev_xVal : xVal fa env s = (match fa env s with | some (d, s') => if d.st = true then some (.val d, s') else none | none => none) := by unfold xVal; rfl
@[simp] theorem ev_xOwn {ff : FF} : xOwn ff env s = (match ff env s with | some (xs, s') => some (.own xs, s') | none => none) := rfl
@[simp] theorem ev_xFr {ff : FF} : xFr ff env s = (match ff env s with | some (xs, s') => some (.val (.lst xs), s') | none => none) := rfl
@[simp] theorem ev_fFr {ff : FF} : fFr ff env s = (match ff env s with | some (xs, s') => some (.lst xs, s') | none => none) := rfl
@[simp] theorem ev_ffLst : ffLst fr env s = (match fr env s with | none => none | some (xs, s1) => if xs.all D.st = true ∧ xs.length ≤ 1000000 then some (xs, s1) else none) := rfl
@[simp] theorem ev_ffOf : ffOf fr env s = (match fr env s with | some ([x], s1) => (match its x with | some xs => some (xs, s1) | none => none) | _ => none) := rfl
@[simp] theorem ev_ffRep : ffRep fa fb env s = (match fa env s with | some (x, s1) => (match asL x, fb env s1 with | some xs, some (.int k, s2) => if -(2 ^ 62) ≤ k ∧ k ≤ 1000000 ∧ xs.length * k.toNat ≤ 1000000 then some ((List.replicate k.toNat xs).flatten, s2) else none | _, _ => none) | none => none) := rfl
@[simp] theorem ev_xsNil : xsNil env s = some ([], s) := rfl
@[simp] theorem ev_xsCons {f : FX} {h : FXs} : xsCons f h env s = (match f env s with | none => none | some (sl, s1) => match h env s1 with | none => none | some (sls, s2) => some (sl :: sls, s2)) := rfl
@[simp] theorem ev_seq : sSeq g k env s = (match g env s with | .nx env' s' => k env' s' | o => o) := by unfold sSeq; rfl
@[simp] theorem ev_nx : sNx env s = .nx env s := rfl
@[simp] theorem ev_no : sNo env s = .no := rfl
@[simp] theorem ev_brk : sBrk env s = .brk env s := rfl
@[simp] theorem ev_expr : sExpr fa env s = (match fa env s with | some (_, s') => .nx env s' | none => .no) := by unfold sExpr; rfl
@[simp] theorem ev_ret : sRet fa env s = (match fa env s with | some (d, s') => .ret d.seal s' | none => .no) := by unfold sRet; rfl
@[simp] theorem ev_sif : sIf t g k env s = (match t env s with | some (true, s') => g env s' | some (false, s') => k env s' | none => .no) := by unfold sIf; rfl
@[simp] theorem ev_set {f : FX} : sSet i f env s = (match f env s with | some (sl, s') => if i < env.length then .nx (env.set i sl) s' else .no | none => .no) := by unfold sSet; rfl
@[simp] theorem ev_par {is : List Nat} {f : FXs} : sPar is f env s = (match f env s with | some (sls, s') => if is.length = sls.length ∧ is.all (fun i => decide (i < env.length)) = true then .nx (putsE env is sls) s' else .no | none => .no) := by unfold sPar; rfl
@[simp] theorem ev_frz : sFrz i env s = (match env[i]? with | some (.own xs) => .nx (env.set i (.val (.lst xs))) s | _ => .no) := by unfold sFrz; rfl
@[simp] theorem ev_app : sApp i fa env s = (match env[i]? with | some (.own xs) => (match fa env s with | some (d, s') => if d.st = true ∧ xs.length < 1000000 then .nx (env.set i (.own (xs ++ [d]))) s' else .no | none => .no) | _ => .no) := by unfold sApp; rfl
@[simp] theorem ev_setix : sSetIx i fa fb env s = (match fa env s with | some (d, s1) => if d.st = true then (match env[i]?, fb env s1 with | some (.own xs), some (.int k, s2) => (match ixN xs.length k with | some j => .nx (env.set i (.own (xs.set j d))) s2 | none => .no) | _, _ => .no) else .no | none => .no) := by unfold sSetIx; rfl
@[simp] theorem ev_augix {o : D → D → Option D} : sAugIx i fa fb o env s = (match env[i]?, fa env s with | some (.own xs), some (.int k, s1) => (match atI xs k, ixN xs.length k with | some x, some j => (match fb env s1 with | some (y, s2) => (match o x y with | some z => if z.st = true then .nx (env.set i (.own (xs.set j z))) s2 else .no | none => .no) | none => .no) | _, _ => .no) | _, _ => .no) := by unfold sAugIx; rfl
@[simp] theorem ev_aug {o : D → D → Option D} : sAug i fa o env s = (match env[i]? with | some (.val x) => (match fa env s with | some (y, s1) => (match o x y with | some z => if z.st = true then .nx (env.set i (.val z)) s1 else .no | none => .no) | none => .no) | _ => .no) := by unfold sAug; rfl
@[simp] theorem ev_for' {fi : FI} {h : FG} : sFor fi h g env s = (match fi env s with | some (false, ds, s1) => sForGo h g ds env s1 | _ => .no) := by unfold sFor; rfl
@[simp] theorem ev_puts0 {sls : List Sl} : putsE env [] sls = env := by unfold putsE; rfl
@[simp] theorem ev_puts {is : List Nat} {sl : Sl} {sls : List Sl} : putsE env (i :: is) (sl :: sls) = (putsE env is sls).set i sl := by rw [putsE]
@[simp] theorem ev_iSeq : iSeq fa env s = (match fa env s with | some (.lst xs, s') => some (false, xs, s') | some (.vw xs, s') => some (true, xs, s') | some (.tup xs, s') => some (false, xs, s') | _ => none) := rfl
@[simp] theorem ev_iEn : iEn fr env s = (match fr env s with | some ([.lst xs], s') => some (false, enD 0 xs, s') | some ([.vw xs], s') => some (true, enD 0 xs, s') | some ([.tup xs], s') => some (false, enD 0 xs, s') | _ => none) := rfl
@[simp] theorem ev_iZp : iZp fr env s = (match fr env s with | some ([.tup xs, .tup ys], s') => some (false, zpD xs ys, s') | some ([.lst xs, .lst ys], s') => some (false, zpD xs ys, s') | _ => none) := rfl
@[simp] theorem ev_oNone : oNone env s = some (none, s) := rfl
@[simp] theorem ev_oSome : oSome fa env s = (match fa env s with | some (.int i, s') => some (some i, s') | _ => none) := rfl
@[simp] theorem ev_cut {l h : FO} : fCut fa l h env s = (match fa env s with | none => none | some (x, s1) => match l env s1 with | none => none | some (lo, s2) => match h env s2 with | none => none | some (hi, s3) => match gCut x lo hi with | none => none | some d => some (d, s3)) := rfl
@[simp] theorem ev_hName : hName i d env = (if i < env.length ∧ notOwn env[i]? = true then some (env.set i (.val d)) else none) := rfl
@[simp] theorem ev_hNil : hNil [] env = some env := rfl
@[simp] theorem ev_hCons {h : FG} {q : FGs} {ds : List D} : hCons h q (d :: ds) env = (match h d env with | some env1 => q ds env1 | none => none) := rfl
@[simp] theorem ev_hTup {q : FGs} {ds : List D} : hTup q (.tup ds) env = q ds env := rfl
@[simp] theorem ev_yes : tYesF env s = some (true, s) := rfl
@[simp] theorem notOwn_no : notOwn (some .no) = true := rfl
@[simp] theorem notOwn_val : notOwn (some (.val d)) = true := rfl
@[simp] theorem ev_ffLc {fi : FI} {h : FG} {vs : List Nat} : ffLc fi h t fa vs env s = (match fi env s with | none => none | some (_, ds, s1) => if vs.all (fun j => notOwn env[j]?) = true ∧ ds.length ≤ 1000000 then lcGo h t fa (wipeE env vs) ds s1 else none) := rfl
@[simp] theorem ev_wipe0 : wipeE env [] = env := rfl
@[simp] theorem ev_wipe {is : List Nat} : wipeE env (i :: is) = (wipeE env is).set i .no := rfl
@[simp] theorem ev_fRow {k : Int} : fRow i k env s = (if isRow env[i]? = true then (match s.at k with | some z => some (.int z, s) | none => none) else none) := rfl
@[simp] theorem ev_fRowLen : fRowLen i env s = (if isRow env[i]? = true then some (.int s.xs.length, s) else none) := rfl
@[simp] theorem ev_fRowAt : fRowAt i fa env s = (if isRow env[i]? = true then (match fa env s with | some (.int k, s1) => (match atI s.xs k with | some z => some (.int z, s1) | none => none) | _ => none) else none) := rfl
@[simp] theorem ev_sRow {k : Int} : sRow i k fa env s = (if isRow env[i]? = true then (match fa env s with | some (.int z, s1) => (match s1.put z k with | some s2 => .nx env s2 | none => .no) | _ => .no) else .no) := rfl
@[simp] theorem isRow_row : isRow (some (.val .row)) = true := rfl
theorem ev_fn {n : Nat} {ds : List D} : fnOf n g ds s = (match g (ds.map Sl.val ++ List.replicate (n - ds.length) .no) s with | .ret d s' => some (d, s') | .nx _ s' => some (.non, s') | _ => none) := rfl
end
/-! values -/
section
variable {i j : Int} {xs ys : List D} {x y : D}
@[simp] theorem st_int : D.st (.int i) = true := rfl
@[simp] theorem st_bl {b : Bool} : D.st (.bl b) = true := rfl
@[simp] theorem st_non : D.st .non = true := rfl
@[simp] theorem st_tup : D.st (.tup xs) = true := rfl
@[simp] theorem st_lst : D.st (.lst xs) = true := rfl
@[simp] theorem st_row : D.st .row = true := rfl
@[simp] theorem st_ty {n : String} : D.st (.ty n) = true := rfl
@[simp] theorem seal_int : D.seal (.int i) = .int i := rfl
@[simp] theorem seal_bl {b : Bool} : D.seal (.bl b) = .bl b := rfl
@[simp] theorem seal_non : D.seal .non = .non := rfl
@[simp] theorem seal_tup : D.seal (.tup xs) = .tup xs := rfl
@[simp] theorem seal_lst : D.seal (.lst xs) = .lst xs := rfl
@[simp] theorem seal_vw : D.seal (.vw xs) = .lst xs := rfl
@[simp] theorem its_lst : its (.lst xs) = some xs := rfl
@[simp] theorem its_vw : its (.vw xs) = some xs := rfl
@[simp] theorem its_tup : its (.tup xs) = some xs := rfl
@[simp] theorem asL_lst : asL (.lst xs) = some xs := rfl
@[simp] theorem asL_vw : asL (.vw xs) = some xs := rfl
@[simp] theorem gAdd_ii : gAdd (.int i) (.int j) = some (.int (i + j)) := rfl
@[simp] theorem gAddI_ii : gAddI (.int i) (.int j) = some (.int (i + j)) := rfl
@[simp] theorem gSub_ii : gSub (.int i) (.int j) = some (.int (i - j)) := rfl
@[simp] theorem gMul_ii : gMul (.int i) (.int j) = if mulOk i j = true then some (.int (i * j)) else none := rfl
@[simp] theorem gMul_li : gMul (.lst xs) (.int j) = if -(2 ^ 62) ≤ j ∧ j ≤ 1000000 ∧ xs.length * j.toNat ≤ 1000000 then some (.lst (List.replicate j.toNat xs).flatten) else none := rfl
@[simp] theorem gFdiv_ii : gFdiv (.int i) (.int j) = if j ≠ 0 then some (.int (i.fdiv j)) else none := by
  show (if decide (j ≠ 0) = true then _ else _) = _
  simp only [decide_eq_true_eq]
@[simp] theorem gMod_ii : gMod (.int i) (.int j) = if j ≠ 0 then some (.int (i.fmod j)) else none := by
  show (if decide (j ≠ 0) = true then _ else _) = _
  simp only [decide_eq_true_eq]
@[simp] theorem gNeg_i : gNeg (.int i) = some (.int (-i)) := rfl
@[simp] theorem gLt_ii : gLt (.int i) (.int j) = some (.bl (decide (i < j))) := rfl
@[simp] theorem gLe_ii : gLe (.int i) (.int j) = some (.bl (decide (i ≤ j))) := rfl
@[simp] theorem gGt_ii : gGt (.int i) (.int j) = some (.bl (decide (j < i))) := rfl
@[simp] theorem gGe_ii : gGe (.int i) (.int j) = some (.bl (decide (j ≤ i))) := rfl
@[simp] theorem gNot_b {b : Bool} : gNot (.bl b) = some (.bl !b) := rfl
@[simp] theorem gIx_t : gIx (.tup xs) (.int i) = atI xs i := rfl
@[simp] theorem gIx_l : gIx (.lst xs) (.int i) = atI xs i := rfl
@[simp] theorem gIx_v : gIx (.vw xs) (.int i) = atI xs i := rfl
@[simp] theorem gLen_t : gLen [.tup xs] = some (.int xs.length) := rfl
@[simp] theorem gLen_l : gLen [.lst xs] = some (.int xs.length) := rfl
@[simp] theorem gLen_v : gLen [.vw xs] = some (.int xs.length) := rfl
@[simp] theorem gAbs_i : gAbs [.int i] = some (.int (i.natAbs : Int)) := by
  show some (D.int (if i < 0 then -i else i)) = _
  congr 2
  split <;> omega
@[simp] theorem gInt_i : gInt [.int i] = some (.int i) := rfl
@[simp] theorem gGcd_ii : gGcd [.int i, .int j] = some (.int ((Nat.gcd i.natAbs j.natAbs : Nat) : Int)) := rfl
@[simp] theorem gMax2_ii : gMax2 [.int i, .int j] = some (.int (max i j)) := by
  show some (D.int (if j > i then j else i)) = _
  congr 2
  split <;> omega
@[simp] theorem gTupD_e : gTupD xs = if xs.all D.st = true ∧ xs.length ≤ 1000000 then some (.tup xs) else none := rfl
@[simp] theorem gLstD_e : gLstD xs = if xs.all D.st = true ∧ xs.length ≤ 1000000 then some (.lst xs) else none := rfl
@[simp] theorem gTupOf_t : gTupOf [.tup xs] = some (.tup xs) := rfl
@[simp] theorem gTupOf_l : gTupOf [.lst xs] = some (.tup xs) := rfl
@[simp] theorem gTupOf_v : gTupOf [.vw xs] = some (.tup xs) := rfl
@[simp] theorem gLstOf_t : gLstOf [.tup xs] = some (.lst xs) := rfl
@[simp] theorem gLstOf_l : gLstOf [.lst xs] = some (.lst xs) := rfl
@[simp] theorem gLstOf_v : gLstOf [.vw xs] = some (.lst xs) := rfl
@[simp] theorem gCut_t {lo hi : Option Int} : gCut (.tup xs) lo hi = some (.tup (cutD xs lo hi)) := rfl
@[simp] theorem gCut_l {lo hi : Option Int} : gCut (.lst xs) lo hi = some (.lst (cutD xs lo hi)) := rfl
@[simp] theorem gCut_v {lo hi : Option Int} : gCut (.vw xs) lo hi = some (.lst (cutD xs lo hi)) := rfl
@[simp] theorem at0 : atI (x :: xs) 0 = some x := by unfold atI ixN; simp
@[simp] theorem at1 : atI (x :: y :: xs) 1 = some y := by
  unfold atI ixN
  rw [if_pos (by decide), if_pos (by simp; omega)]
  rfl
theorem at_natG {α : Type} {xs : List α} {n : Nat} (h : n < xs.length) : atI xs (n : Int) = xs[n]? := by
  unfold atI ixN
  rw [if_pos (by omega), if_pos (by omega)]
  rfl
theorem at_nat {n : Nat} (h : n < xs.length) : atI xs (n : Int) = xs[n]? := by
  unfold atI ixN
  rw [if_pos (by omega), if_pos (by omega)]
  rfl
theorem ix_nat {m n : Nat} (h : n < m) : ixN m (n : Int) = some n := by
  unfold ixN
  rw [if_pos (by omega), if_pos (by omega)]
  rfl
theorem at_last (h : xs ≠ []) : atI xs (-1) = xs.getLast? := by
  have hl : 0 < xs.length := List.length_pos_iff.mpr h
  unfold atI ixN
  rw [if_neg (by decide), if_pos (by omega)]
  show xs[(-1 + (xs.length : Int)).toNat]? = _
  rw [List.getLast?_eq_getElem?]
  congr 1
  omega
/-! ints, and tuples of such -/
mutual
def plT : Nat → D → Bool
  | _, .int _ => true
  | n + 1, .tup xs => plTs n xs
  | _, _ => false
def plTs : Nat → List D → Bool
  | _, [] => true
  | n, d :: ds => plT n d && plTs n ds
end
mutual
theorem plT_ok : ∀ (n : Nat) (d : D), plT n d = true → okD n d = true
  | n, .int _, _ => by cases n <;> rfl
  | n + 1, .tup xs, h => by
    unfold plT at h
    unfold okD
    exact plTs_ok n xs h
  | 0, .tup xs, h => by unfold plT at h; cases h
  | n, .non, h => by cases n <;> (unfold plT at h; cases h)
  | n, .bl _, h => by cases n <;> (unfold plT at h; cases h)
  | n, .str _, h => by cases n <;> (unfold plT at h; cases h)
  | n, .lst _, h => by cases n <;> (unfold plT at h; cases h)
  | n, .vw _, h => by cases n <;> (unfold plT at h; cases h)
  | n, .row, h => by cases n <;> (unfold plT at h; cases h)
  | n, .ty _, h => by cases n <;> (unfold plT at h; cases h)
theorem plTs_ok : ∀ (n : Nat) (ds : List D), plTs n ds = true → okDs n ds = true
  | n, [], _ => by unfold okDs; rfl
  | n, d :: ds, h => by
    unfold plTs at h
    unfold okDs
    rw [Bool.and_eq_true] at h ⊢
    exact ⟨plT_ok n d h.1, plTs_ok n ds h.2⟩
end
mutual
theorem plT_eq : ∀ (n : Nat) (d e : D), plT n d = true → plT n e = true → (PyData.eqv (toPD d) (toPD e) = true ↔ d = e)
  | n, .int i, .int j, _, _ => by unfold toPD PyData.eqv; simp
  | n, .int i, .tup ys, _, _ => by unfold toPD PyData.eqv; simp
  | n, .tup xs, .int j, _, _ => by unfold toPD PyData.eqv; simp
  | n + 1, .tup xs, .tup ys, h, h' => by
    unfold plT at h h'
    unfold toPD PyData.eqv
    rw [plTs_eq n xs ys h h']
    simp
  | 0, .tup xs, _, h, _ => by unfold plT at h; cases h
  | n, .int i, .non, _, h => by cases n <;> (unfold plT at h; cases h)
  | n, .int i, .bl _, _, h => by cases n <;> (unfold plT at h; cases h)
  | n, .int i, .str _, _, h => by cases n <;> (unfold plT at h; cases h)
  | n, .int i, .lst _, _, h => by cases n <;> (unfold plT at h; cases h)
  | n, .int i, .vw _, _, h => by cases n <;> (unfold plT at h; cases h)
  | n, .int i, .row, _, h => by cases n <;> (unfold plT at h; cases h)
  | n, .int i, .ty _, _, h => by cases n <;> (unfold plT at h; cases h)
  | n + 1, .tup i, .non, _, h => by (unfold plT at h; cases h)
  | n + 1, .tup i, .bl _, _, h => by (unfold plT at h; cases h)
  | n + 1, .tup i, .str _, _, h => by (unfold plT at h; cases h)
  | n + 1, .tup i, .lst _, _, h => by (unfold plT at h; cases h)
  | n + 1, .tup i, .vw _, _, h => by (unfold plT at h; cases h)
  | n + 1, .tup i, .row, _, h => by (unfold plT at h; cases h)
  | n + 1, .tup i, .ty _, _, h => by (unfold plT at h; cases h)
  | n, .non, _, h, _ => by cases n <;> (unfold plT at h; cases h)
  | n, .bl _, _, h, _ => by cases n <;> (unfold plT at h; cases h)
  | n, .str _, _, h, _ => by cases n <;> (unfold plT at h; cases h)
  | n, .lst _, _, h, _ => by cases n <;> (unfold plT at h; cases h)
  | n, .vw _, _, h, _ => by cases n <;> (unfold plT at h; cases h)
  | n, .row, _, h, _ => by cases n <;> (unfold plT at h; cases h)
  | n, .ty _, _, h, _ => by cases n <;> (unfold plT at h; cases h)
theorem plTs_eq : ∀ (n : Nat) (ds es : List D), plTs n ds = true → plTs n es = true → (PyData.eqvAll (toPDs ds) (toPDs es) = true ↔ ds = es)
  | n, [], [], _, _ => by unfold toPDs PyData.eqvAll; simp
  | n, [], _ :: _, _, _ => by unfold toPDs PyData.eqvAll; simp
  | n, _ :: _, [], _, _ => by unfold toPDs PyData.eqvAll; simp
  | n, d :: ds, e :: es, h, h' => by
    unfold plTs at h h'
    rw [Bool.and_eq_true] at h h'
    unfold toPDs PyData.eqvAll
    rw [Bool.and_eq_true, plT_eq n d e h.1 h'.1, plTs_eq n ds es h.2 h'.2]
    simp
end
theorem gEq_pl {x y : D} (hx : plT 60 x = true) (hy : plT 60 y = true) : gEq x y = some (.bl (@decide (x = y) (Classical.propDecidable _))) := by
  unfold gEq
  rw [if_pos ⟨plT_ok 60 x hx, plT_ok 60 y hy⟩]
  congr 2
  unfold eqD
  have h := plT_eq 60 x y hx hy
  by_cases e : x = y
  · rw [h.mpr e, @decide_eq_true _ (Classical.propDecidable _) e]
  · rw [Bool.eq_false_iff.mpr (fun z => e (h.mp z)), @decide_eq_false _ (Classical.propDecidable _) e]
theorem gNe_pl {x y : D} (hx : plT 60 x = true) (hy : plT 60 y = true) : gNe x y = some (.bl (!@decide (x = y) (Classical.propDecidable _))) := by
  have h := gEq_pl hx hy
  unfold gEq at h
  unfold gNe
  rw [if_pos ⟨plT_ok 60 x hx, plT_ok 60 y hy⟩] at h ⊢
  have h' := D.bl.inj (Option.some.inj h)
  rw [h']
@[simp] theorem pl_int {n : Nat} : plT n (.int i) = true := by cases n <;> rfl
@[simp] theorem pl_tup {n : Nat} : plT (n + 1) (.tup xs) = plTs n xs := rfl
@[simp] theorem pls_nil {n : Nat} : plTs n [] = true := rfl
@[simp] theorem pls_cons {n : Nat} : plTs n (x :: xs) = (plT n x && plTs n xs) := rfl
theorem pls_all {n : Nat} : ∀ {ds : List D}, (∀ d ∈ ds, plT n d = true) → plTs n ds = true
  | [], _ => rfl
  | d :: ds, h => by
    rw [pls_cons, Bool.and_eq_true]
    exact ⟨h d List.mem_cons_self, pls_all fun e he => h e (List.mem_cons_of_mem _ he)⟩
@[simp] theorem eq_ii : gEq (.int i) (.int j) = some (.bl (decide (i = j))) := by
  rw [gEq_pl pl_int pl_int]
  congr 2
  by_cases e : i = j
  · subst e; simp
  · rw [@decide_eq_false _ (Classical.propDecidable _) (fun z => e (D.int.inj z)), decide_eq_false e]
@[simp] theorem ne_ii : gNe (.int i) (.int j) = some (.bl (!decide (i = j))) := by
  rw [gNe_pl pl_int pl_int]
  congr 3
  by_cases e : i = j
  · subst e; simp
  · rw [@decide_eq_false _ (Classical.propDecidable _) (fun z => e (D.int.inj z)), decide_eq_false e]
end
/-- numbers of less than n bits -/
def Sm (n : Nat) (i : Int) : Prop := i.natAbs < 2 ^ n
theorem mul_ok {i j : Int} {n m : Nat} (hi : Sm n i) (hj : Sm m j) (h : n + m ≤ 99999999 := by omega) : mulOk i j = true := by
  have l : ∀ {x : Int} {k : Nat}, Sm k x → x.natAbs.log2 ≤ k := fun {x k} hx => by
    by_cases z : x.natAbs = 0
    · rw [z]; simp
    · exact Nat.le_of_lt ((Nat.log2_lt z).mpr hx)
  have h1 := l hi
  have h2 := l hj
  unfold mulOk
  exact decide_eq_true (by omega)
theorem Sm.mul {i j : Int} {n m : Nat} (hi : Sm n i) (hj : Sm m j) : Sm (n + m) (i * j) := by
  unfold Sm at *
  rw [Int.natAbs_mul, Nat.pow_add]
  exact Nat.mul_lt_mul'' hi hj
theorem Sm.mono {i : Int} {n m : Nat} (h : Sm n i) (hm : n ≤ m) : Sm m i := Nat.lt_of_lt_of_le h (Nat.pow_le_pow_right (by decide) hm)
theorem Sm.neg {i : Int} {n : Nat} (h : Sm n i) : Sm n (-i) := by unfold Sm; rw [Int.natAbs_neg]; exact h
theorem Sm.add {i j : Int} {n : Nat} (hi : Sm n i) (hj : Sm n j) : Sm (n + 1) (i + j) := by
  unfold Sm at *
  rw [Nat.pow_succ]
  have := Int.natAbs_add_le i j
  omega
theorem Sm.sub {i j : Int} {n : Nat} (hi : Sm n i) (hj : Sm n j) : Sm (n + 1) (i - j) := by
  rw [Int.sub_eq_add_neg]; exact hi.add hj.neg
/-! loops, cuts, ranges -/
section
variable {t : FT} {g : FS} {h : FG} {env : Ev} {s : RS} {n : Nat} {d : D} {ds : List D} {fa : FE} {fr : FA}
theorem ev_while : sWhile t g (n + 1) env s = (match t env s with
    | none => .no
    | some (false, s1) => .nx env s1
    | some (true, s1) => match g env s1 with
      | .nx env' s' => sWhile t g n env' s'
      | .ct env' s' => sWhile t g n env' s'
      | .brk env' s' => .nx env' s'
      | .ret d s' => .ret d s'
      | .no => .no) := rfl
theorem ev_go0 : sForGo h g [] env s = .nx env s := rfl
theorem ev_go : sForGo h g (d :: ds) env s = (match h d env with
    | none => .no
    | some env1 => match g env1 s with
      | .nx env' s' => sForGo h g ds env' s'
      | .ct env' s' => sForGo h g ds env' s'
      | .brk env' s' => .nx env' s'
      | .ret d s' => .ret d s'
      | .no => .no) := rfl
theorem ev_lc0 : lcGo h t fa env [] s = some ([], s) := rfl
theorem ev_lc : lcGo h t fa env (d :: ds) s = (match h d env with
    | none => none
    | some env1 => match t env1 s with
      | none => none
      | some (false, s1) => lcGo h t fa env ds s1
      | some (true, s1) => match fa env1 s1 with
        | none => none
        | some (y, s2) => if y.st = true then (match lcGo h t fa env ds s2 with
            | none => none
            | some (ys, s3) => some (y :: ys, s3)) else none) := rfl
/-- a comprehension that makes one item of each -/
theorem lc_map {α β : Type} (f : α → β) (ea : α → D) (eb : β → D) (hb : ∀ b, (eb b).st = true) : ∀ (l : List α), (∀ a ∈ l, ∃ env1, h (ea a) env = some env1 ∧ fa env1 s = some (eb (f a), s)) →
    lcGo h tYesF fa env (l.map ea) s = some ((l.map f).map eb, s)
  | [], _ => rfl
  | a :: l, H => by
    obtain ⟨env1, h1, h2⟩ := H a List.mem_cons_self
    rw [List.map_cons, ev_lc, h1]
    simp only [ev_yes, h2, hb, if_true]
    rw [lc_map f ea eb hb l fun b hb => H b (List.mem_cons_of_mem _ hb)]
    rfl
theorem cut_nat {xs : List D} {m : Nat} : cutD xs none (some (m : Int)) = xs.take m := by
  unfold cutD
  rw [HT.sIx_none, HT.sIx_nat, List.drop_zero, Nat.sub_zero]
  by_cases h : m ≤ xs.length
  · rw [Nat.min_eq_left h]
  · rw [Nat.min_eq_right (by omega), List.take_of_length_le (by omega), List.take_of_length_le (by omega)]
theorem cut_last {xs : List D} : cutD xs none (some (-1)) = xs.dropLast := by
  unfold cutD
  rw [HT.sIx_none, List.drop_zero, Nat.sub_zero, List.dropLast_eq_take]
  congr 1
  have : HT.sIx xs.length xs.length (some (-1)) = (-1 + (xs.length : Int)).toNat := by
    unfold HT.sIx
    simp
  rw [this]
  omega
@[simp] theorem ev_rg1 : iRg1 fr env s = (match fr env s with | some ([.int j], s') => if -(2 ^ 61) ≤ j ∧ j ≤ 2 ^ 61 then some (false, rgD 0 j.toNat, s') else none | _ => none) := rfl
@[simp] theorem ev_rg2 : iRg2 fr env s = (match fr env s with | some ([.int i, .int j], s') => if -(2 ^ 61) ≤ i ∧ i ≤ 2 ^ 61 ∧ -(2 ^ 61) ≤ j ∧ j ≤ 2 ^ 61 then some (false, rgD i (j - i).toNat, s') else none | _ => none) := rfl
@[simp] theorem ev_rg3 : iRg3 fr env s = (match fr env s with | some ([.int i, .int j, .int c], s') => if c = -1 ∧ -(2 ^ 61) ≤ i ∧ i ≤ 2 ^ 61 ∧ -(2 ^ 61) ≤ j ∧ j ≤ 2 ^ 61 then some (false, rgN i (i - j).toNat, s') else none | _ => none) := rfl
theorem ev_rgD0 {lo : Int} : rgD lo 0 = [] := rfl
theorem ev_rgD {lo : Int} {n : Nat} : rgD lo (n + 1) = .int lo :: rgD (lo + 1) n := rfl
theorem ev_rgN0 {lo : Int} : rgN lo 0 = [] := rfl
theorem ev_rgN {lo : Int} {n : Nat} : rgN lo (n + 1) = .int lo :: rgN (lo - 1) n := rfl
theorem fm_some {α β : Type} {f : α → Option β} {g : α → β} : ∀ (l : List α), (∀ k ∈ l, f k = some (g k)) → l.filterMap f = l.map g
  | [], _ => rfl
  | k :: l, h => by
    rw [List.filterMap_cons, h k List.mem_cons_self, List.map_cons, fm_some l fun j hj => h j (List.mem_cons_of_mem _ hj)]
theorem step_rev {xs : List D} : stepL xs none none (-1) = xs.reverse := by
  have e1 : stepAt none none (-1) xs.length = ((xs.length : Int) - 1, xs.length) := by
    unfold stepAt Builtin.Slice.sliceAdjust Builtin.Slice.slicePlaces
    by_cases h : xs.length = 0
    · rw [h]; decide
    · have : (-1 : Int) < (xs.length : Int) - 1 := by omega
      simp [this]
  unfold stepL
  rw [e1]
  apply List.ext_getElem?
  intro i
  have e2 : ((List.range xs.length).filterMap fun (k : Nat) => xs[((xs.length : Int) - 1 + (k : Int) * -1).toNat]?) = (List.range xs.length).filterMap fun k => xs[xs.length - 1 - k]? := by
    congr 1
    funext k
    congr 1
    omega
  rw [e2]
  have e3 : ((List.range xs.length).filterMap fun k => xs[xs.length - 1 - k]?) = (List.range xs.length).map fun k => xs.getD (xs.length - 1 - k) .non := by
    apply fm_some
    intro k hk
    have hk' : k < xs.length := List.mem_range.mp hk
    rw [List.getD_eq_getElem?_getD, List.getElem?_eq_getElem (by omega)]
    rfl
  rw [e3]
  by_cases hi : i < xs.length
  · rw [List.getElem?_map, List.getElem?_range hi, List.getElem?_reverse hi]
    show some (xs.getD (xs.length - 1 - i) .non) = _
    rw [List.getD_eq_getElem?_getD, List.getElem?_eq_getElem (by omega)]
    rfl
  · rw [List.getElem?_eq_none (by simp; omega), List.getElem?_eq_none (by simp; omega)]
@[simp] theorem ev_step {l h : FO} {fc : FE} : fStep fa l h fc env s = (match fa env s with
    | some (.tup xs, s1) => (match l env s1 with
      | some (lo, s2) => (match h env s2 with
        | some (hi, s3) => (match fc env s3 with
          | some (.int c, s4) => if c ≠ 0 ∧ c ≠ 1 ∧ (stepL xs lo hi c).length ≤ 1000000 then some (.tup (stepL xs lo hi c), s4) else none
          | _ => none)
        | none => none)
      | none => none)
    | _ => none) := rfl
end
section
variable {i : Int} {b : Bool} {xs : List D}
@[simp] theorem isi_int : gIsI [.int i, .ty "int"] = some (.bl true) := by simp [gIsI, kindD, isK]
@[simp] theorem isi_bool : gIsI [.int i, .ty "bool"] = some (.bl false) := by simp [gIsI, kindD, isK]
theorem gPow_18 : gPow (.int 10) (.int 18) = some (.int 1000000000000000000) := by
  show (if decide (0 ≤ (18 : Int) ∧ (18 : Int) ≤ 1000000 ∧ (10 : Int).natAbs < 2 ^ 64) = true then some (D.int ((10 : Int) ^ (18 : Int).toNat)) else none) = _
  rw [if_pos (by decide)]
  rfl
@[simp] theorem isi_tup : gIsI [.tup xs, .ty "tuple"] = some (.bl true) := by simp [gIsI, kindD, isK]
end
/-- a for over a range, by an invariant -/
theorem rg_loop {h : FG} {g : FS} {s : RS} (I : Nat → Ev → Prop) : ∀ (n a : Nat) (env : Ev), I a env → (∀ (i : Nat) (env : Ev), a ≤ i → i < a + n → I i env → ∃ env1 env2, h (.int i) env = some env1 ∧ g env1 s = .nx env2 s ∧ I (i + 1) env2) →
    ∃ env', sForGo h g (rgD (a : Int) n) env s = .nx env' s ∧ I (a + n) env'
  | 0, a, env, hi, _ => ⟨env, rfl, hi⟩
  | n + 1, a, env, hi, st => by
    obtain ⟨env1, env2, h1, h2, h3⟩ := st a env (Nat.le_refl a) (by omega) hi
    obtain ⟨env', k1, k2⟩ := rg_loop I n (a + 1) env2 h3 fun i e h4 h5 h6 => st i e (by omega) (by omega) h6
    refine ⟨env', ?_, by rw [show a + (n + 1) = a + 1 + n by omega]; exact k2⟩
    rw [show ((a + 1 : Nat) : Int) = (a : Int) + 1 by omega] at k1
    rw [ev_rgD, ev_go, h1]
    simp only [h2]
    exact k1
end DL

/-! power series (and polynomials) over a commutative ring, as a ring for grind -/
namespace MS
open Lean.Grind

@[ext] structure Ser (R : Type) where
  c : Nat → R
section
variable {R : Type} [CommRing R]
local instance natR : NatCast R := Semiring.natCast
local instance intR : IntCast R := Ring.intCast
def mulc (f g : Nat → R) : Nat → R
  | 0 => f 0 * g 0
  | n + 1 => f 0 * g (n + 1) + mulc (fun i => f (i + 1)) g n
termination_by n => n
theorem mulc_zero (f g : Nat → R) : mulc f g 0 = f 0 * g 0 := by rw [mulc]
theorem mulc_succ (f g : Nat → R) (n : Nat) : mulc f g (n + 1) = f 0 * g (n + 1) + mulc (fun i => f (i + 1)) g n := by rw [mulc]
theorem mulc_add (g h : Nat → R) : ∀ (n : Nat) (f : Nat → R), mulc f (fun i => g i + h i) n = mulc f g n + mulc f h n
  | 0, f => by simp only [mulc_zero]; grind
  | n + 1, f => by simp only [mulc_succ, mulc_add g h n]; grind
theorem mulc_add' (h : Nat → R) : ∀ (n : Nat) (f g : Nat → R), mulc (fun i => f i + g i) h n = mulc f h n + mulc g h n
  | 0, f, g => by simp only [mulc_zero]; grind
  | n + 1, f, g => by simp only [mulc_succ]; rw [mulc_add' h n]; grind
theorem mulc_smul (h : Nat → R) (r : R) : ∀ (n : Nat) (f : Nat → R), mulc (fun i => r * f i) h n = r * mulc f h n
  | 0, f => by simp only [mulc_zero]; grind
  | n + 1, f => by simp only [mulc_succ]; rw [mulc_smul h r n]; grind
theorem mulc_zero_left (h : Nat → R) : ∀ (n : Nat), mulc (fun _ => 0) h n = 0
  | 0 => by simp only [mulc_zero]; grind
  | n + 1 => by simp only [mulc_succ]; rw [mulc_zero_left h n]; grind
theorem mulc_last (g : Nat → R) : ∀ (n : Nat) (f : Nat → R), mulc f g (n + 1) = mulc f (fun i => g (i + 1)) n + f (n + 1) * g 0
  | 0, f => by simp only [mulc_zero, mulc_succ]
  | n + 1, f => by
    rw [mulc_succ, mulc_last g n, mulc_succ]
    grind
theorem mulc_comm : ∀ (n : Nat) (f g : Nat → R), mulc f g n = mulc g f n
  | 0, f, g => by simp only [mulc_zero]; grind
  | n + 1, f, g => by rw [mulc_succ, mulc_last, mulc_comm n]; grind
theorem mulc_assoc (g h : Nat → R) : ∀ (n : Nat) (f : Nat → R), mulc (mulc f g) h n = mulc f (mulc g h) n
  | 0, f => by simp only [mulc_zero]; grind
  | n + 1, f => by
    rw [mulc_succ, mulc_succ f, mulc_succ g]
    have e : (fun i => mulc f g (i + 1)) = fun i => f 0 * g (i + 1) + mulc (fun j => f (j + 1)) g i := by
      funext i; rw [mulc_succ]
    rw [e, mulc_add', mulc_smul, mulc_assoc g h n, mulc_zero]
    grind
/-- the constant -/
def K (r : R) : Nat → R := fun n => if n = 0 then r else 0
theorem mulc_K (r : R) (g : Nat → R) (n : Nat) : mulc (K r) g n = r * g n := by
  cases n with
  | zero => rw [mulc_zero]; rfl
  | succ n =>
    rw [mulc_succ]
    have e : (fun i => K r (i + 1)) = fun _ => 0 := by funext i; rfl
    rw [e, mulc_zero_left]
    show r * _ + 0 = _
    grind
instance : Add (Ser R) := ⟨fun f g => ⟨fun n => f.c n + g.c n⟩⟩
instance : Mul (Ser R) := ⟨fun f g => ⟨mulc f.c g.c⟩⟩
instance : Neg (Ser R) := ⟨fun f => ⟨fun n => - f.c n⟩⟩
instance : Sub (Ser R) := ⟨fun f g => ⟨fun n => f.c n - g.c n⟩⟩
instance : NatCast (Ser R) := ⟨fun n => ⟨K (n : R)⟩⟩
instance : IntCast (Ser R) := ⟨fun n => ⟨K (n : R)⟩⟩
instance (n : Nat) : OfNat (Ser R) n := ⟨⟨K (OfNat.ofNat n : R)⟩⟩
instance : SMul Nat (Ser R) := ⟨fun n f => (n : Ser R) * f⟩
instance : SMul Int (Ser R) := ⟨fun n f => (n : Ser R) * f⟩
def spow (f : Ser R) : Nat → Ser R
  | 0 => 1
  | n + 1 => spow f n * f
instance : HPow (Ser R) Nat (Ser R) := ⟨spow⟩
theorem add_c (f g : Ser R) (n : Nat) : (f + g).c n = f.c n + g.c n := rfl
theorem sub_c (f g : Ser R) (n : Nat) : (f - g).c n = f.c n - g.c n := rfl
theorem neg_c (f : Ser R) (n : Nat) : (-f).c n = - f.c n := rfl
theorem mul_c (f g : Ser R) (n : Nat) : (f * g).c n = mulc f.c g.c n := rfl
theorem zero_c (n : Nat) : (0 : Ser R).c n = 0 := by
  show (if n = 0 then (0 : R) else 0) = 0
  split <;> rfl
theorem one_c (n : Nat) : (1 : Ser R).c n = if n = 0 then 1 else 0 := rfl
theorem serEq {f g : Ser R} (h : ∀ n, f.c n = g.c n) : f = g := by
  cases f; cases g
  congr 1
  funext n
  exact h n
instance : Semiring (Ser R) where
  add_zero f := serEq fun n => by rw [add_c, zero_c]; grind
  add_comm f g := serEq fun n => by rw [add_c, add_c]; grind
  add_assoc f g h := serEq fun n => by simp only [add_c]; grind
  mul_assoc f g h := serEq fun n => mulc_assoc g.c h.c n f.c
  mul_one f := serEq fun n => by
    rw [mul_c, mulc_comm]
    show mulc (K 1) f.c n = _
    rw [mulc_K]; grind
  one_mul f := serEq fun n => by
    show mulc (K 1) f.c n = _
    rw [mulc_K]; grind
  left_distrib f g h := serEq fun n => mulc_add g.c h.c n f.c
  right_distrib f g h := serEq fun n => mulc_add' h.c n f.c g.c
  zero_mul f := serEq fun n => by
    show mulc (K 0) f.c n = (0 : Ser R).c n
    rw [mulc_K, zero_c]; grind
  mul_zero f := serEq fun n => by
    rw [mul_c, mulc_comm]
    show mulc (K 0) f.c n = (0 : Ser R).c n
    rw [mulc_K, zero_c]; grind
  pow_zero f := rfl
  pow_succ f n := rfl
  ofNat_succ n := serEq fun k => by
    show K (OfNat.ofNat (n + 1) : R) k = K (OfNat.ofNat n : R) k + K 1 k
    unfold K
    split
    · exact Semiring.ofNat_succ n
    · grind
  ofNat_eq_natCast n := serEq fun k => by
    show K (OfNat.ofNat n : R) k = K (n : R) k
    rw [Semiring.ofNat_eq_natCast]
  nsmul_eq_natCast_mul n f := rfl
instance : CommRing (Ser R) where
  neg_add_cancel f := serEq fun n => by rw [add_c, neg_c, zero_c]; grind
  sub_eq_add_neg f g := serEq fun n => by rw [add_c, neg_c, sub_c]; grind
  neg_zsmul i f := serEq fun n => by
    show mulc (K ((-i : Int) : R)) f.c n = - mulc (K (i : R)) f.c n
    rw [mulc_K, mulc_K, Ring.intCast_neg]; grind
  zsmul_natCast_eq_nsmul n f := serEq fun k => by
    show mulc (K (((n : Nat) : Int) : R)) f.c k = mulc (K (n : R)) f.c k
    rw [mulc_K, mulc_K, Ring.intCast_natCast]
  intCast_ofNat n := serEq fun k => by
    show K ((OfNat.ofNat n : Int) : R) k = K (OfNat.ofNat n : R) k
    rw [Ring.intCast_ofNat]
  intCast_neg i := serEq fun k => by
    show K ((-i : Int) : R) k = - K (i : R) k
    unfold K
    split
    · exact Ring.intCast_neg i
    · grind
  mul_comm f g := serEq fun n => mulc_comm n f.c g.c
end
example (a b c : Ser Rat) (h : a * b = 1) : a * c * b = c := by grind
example (k x F d G : Ser Rat) (h : G * (1 + k * x * F) = k + x * F) : G * (1 + k * x * F) * d = (k + x * F) * d := by grind
end MS

/-! polynomials with whole coefficients: series with an end, lists -/
namespace MS
open Lean.Grind
section
variable {R : Type} [CommRing R]
/-- a prime ideal -/
structure Pr (Z : R → Prop) : Prop where
  zero : Z 0
  add : ∀ a b, Z a → Z b → Z (a + b)
  mul : ∀ a b, Z b → Z (a * b)
  one : ∀ a b, Z (a * b) → Z a ∨ Z b
theorem Pr.neg {Z : R → Prop} (h : Pr Z) {a : R} (x : Z a) : Z (-a) := by
  have := h.mul (-1) a x
  rwa [show (-1 : R) * a = -a by grind] at this
theorem Pr.below {Z : R → Prop} (h : Pr Z) {g : Nat → R} : ∀ (n : Nat) (f : Nat → R), (∀ m, m ≤ n → Z (g m)) → Z (mulc f g n)
  | 0, f, hg => by rw [mulc_zero]; exact h.mul _ _ (hg 0 (Nat.le_refl 0))
  | n + 1, f, hg => by
    rw [mulc_succ]
    exact h.add _ _ (h.mul _ _ (hg _ (Nat.le_refl _))) (h.below n _ fun m hm => hg m (by omega))
theorem Pr.low {Z : R → Prop} (h : Pr Z) {g : Nat → R} {j : Nat} (hg : ∀ m, m < j → Z (g m)) : ∀ (i : Nat) (f : Nat → R), (∀ m, m < i → Z (f m)) → Z (mulc f g (i + j) - f i * g j)
  | 0, f, hf => by
    cases j with
    | zero => rw [mulc_zero, show f 0 * g 0 - f 0 * g 0 = (0 : R) by grind]; exact h.zero
    | succ j =>
      rw [Nat.zero_add, mulc_succ, show f 0 * g (j + 1) + mulc (fun i => f (i + 1)) g j - f 0 * g (j + 1) = mulc (fun i => f (i + 1)) g j by grind]
      exact h.below j _ fun m hm => hg m (by omega)
  | i + 1, f, hf => by
    rw [show i + 1 + j = (i + j) + 1 by omega, mulc_succ, show ∀ x y z : R, x + y - z = x + (y - z) by grind]
    refine h.add _ _ ?_ (h.low hg i (fun i => f (i + 1)) fun m hm => hf (m + 1) (by omega))
    rw [show f 0 * g (i + j + 1) = g (i + j + 1) * f 0 by grind]
    exact h.mul _ _ (hf 0 (by omega))
theorem least {p : Nat → Prop} : (∃ n, p n) → ∃ n, p n ∧ ∀ m, m < n → ¬ p m := by
  intro ⟨n, hn⟩
  induction n using Nat.strongRecOn with
  | ind n ih =>
    by_cases h : ∃ m, m < n ∧ p m
    · obtain ⟨m, hm, pm⟩ := h
      exact ih m hm pm
    · exact ⟨n, hn, fun m hm pm => h ⟨m, hm, pm⟩⟩
/-- Gauss -/
theorem Pr.gauss {Z : R → Prop} (h : Pr Z) {f g : Ser R} (x : ∀ n, Z ((f * g).c n)) : (∀ n, Z (f.c n)) ∨ ∀ n, Z (g.c n) := by
  refine Classical.byContradiction fun c => ?_
  have hf : ∃ n, ¬ Z (f.c n) := Classical.byContradiction fun z => c (.inl fun n => Classical.byContradiction fun q => z ⟨n, q⟩)
  have hg : ∃ n, ¬ Z (g.c n) := Classical.byContradiction fun z => c (.inr fun n => Classical.byContradiction fun q => z ⟨n, q⟩)
  obtain ⟨i, hi, hi'⟩ := least hf
  obtain ⟨j, hj, hj'⟩ := least hg
  have key := h.low (fun m hm => Classical.byContradiction fun q => hj' m hm q) i f.c fun m hm => Classical.byContradiction fun q => hi' m hm q
  have y := x (i + j)
  rw [mul_c] at y
  have : Z (f.c i * g.c j) := by
    rw [show f.c i * g.c j = mulc f.c g.c (i + j) + -(mulc f.c g.c (i + j) - f.c i * g.c j) by grind]
    exact h.add _ _ y (h.neg key)
  rcases h.one _ _ this with z | z
  · exact hi z
  · exact hj z
end
theorem pr_int : Pr (fun a : Int => a = 0) := ⟨rfl, by intros; omega, by intro a b h; rw [h]; simp, fun a b h => Int.mul_eq_zero.mp h⟩
theorem pr_rat : Pr (fun a : Rat => a = 0) := ⟨rfl, by grind, by grind, fun a b h => by grind⟩
theorem mul_zeroI {f g : Ser Int} (h : f * g = 0) : f = 0 ∨ g = 0 := by
  have := pr_int.gauss (f := f) (g := g) fun n => by rw [h, zero_c]
  rcases this with z | z
  · exact .inl (serEq fun n => by rw [z n, zero_c])
  · exact .inr (serEq fun n => by rw [z n, zero_c])
theorem mul_zeroQ {f g : Ser Rat} (h : f * g = 0) : f = 0 ∨ g = 0 := by
  have := pr_rat.gauss (f := f) (g := g) fun n => by rw [h, zero_c]
  rcases this with z | z
  · exact .inl (serEq fun n => by rw [z n, zero_c])
  · exact .inr (serEq fun n => by rw [z n, zero_c])
theorem cancelI {f g h : Ser Int} (hf : f ≠ 0) (e : f * g = f * h) : g = h := by
  have : f * (g - h) = 0 := by grind
  rcases mul_zeroI this with z | z
  · exact absurd z hf
  · grind
theorem cancelQ {f g h : Ser Rat} (hf : f ≠ 0) (e : f * g = f * h) : g = h := by
  have : f * (g - h) = 0 := by grind
  rcases mul_zeroQ this with z | z
  · exact absurd z hf
  · grind
/-! primes -/
def Prm (p : Int) : Prop := 1 < p ∧ ∀ a b : Int, p ∣ a * b → p ∣ a ∨ p ∣ b
theorem prime_of {n : Nat} (h : 1 < n) : ∃ p : Int, Prm p ∧ p ∣ n := by
  obtain ⟨p, ⟨h1, h2⟩, h3⟩ := least (p := fun p => 1 < p ∧ p ∣ n) ⟨n, h, Nat.dvd_refl n⟩
  refine ⟨p, ⟨by omega, fun a b hab => ?_⟩, Int.ofNat_dvd.mpr h2⟩
  have hab' : p ∣ a.natAbs * b.natAbs := by
    have := Int.natAbs_dvd_natAbs.mpr hab
    rwa [Int.natAbs_mul, Int.natAbs_natCast] at this
  by_cases g1 : Nat.gcd p a.natAbs = 1
  · right
    exact Int.ofNat_dvd_left.mpr (Nat.Coprime.dvd_of_dvd_mul_left g1 hab')
  · left
    have g0 : 0 < Nat.gcd p a.natAbs := Nat.gcd_pos_of_pos_left _ (by omega)
    have gd : Nat.gcd p a.natAbs ∣ p := Nat.gcd_dvd_left _ _
    have : ¬ Nat.gcd p a.natAbs < p := fun hlt => h3 _ hlt ⟨by omega, Nat.dvd_trans gd h2⟩
    have e : Nat.gcd p a.natAbs = p := Nat.le_antisymm (Nat.le_of_dvd (by omega) gd) (by omega)
    have := Nat.gcd_dvd_right p a.natAbs
    rw [e] at this
    exact Int.ofNat_dvd_left.mpr this
theorem pr_prime {p : Int} (h : Prm p) : Pr (fun a : Int => p ∣ a) := ⟨Int.dvd_zero p, fun a b => Int.dvd_add, fun a b h => Int.dvd_mul_of_dvd_right h, h.2⟩
/-! series with an end -/
section
variable {R : Type} [CommRing R]
/-- the constant -/
def C (r : R) : Ser R := ⟨K r⟩
def X : Ser R := ⟨fun n => if n = 1 then 1 else 0⟩
theorem C_mul (r : R) (f : Ser R) (n : Nat) : (C r * f).c n = r * f.c n := mulc_K r f.c n
theorem C_c (r : R) (n : Nat) : (C r).c n = if n = 0 then r else 0 := rfl
theorem C_mulC (r t : R) : C r * C t = C (r * t) := serEq fun n => by
  rw [C_mul, C_c, C_c]
  split
  · rfl
  · grind
theorem C_add (r t : R) : C r + C t = C (r + t) := serEq fun n => by
  rw [add_c, C_c, C_c, C_c]
  split
  · rfl
  · grind
theorem C_one : C (1 : R) = 1 := serEq fun n => by rw [C_c, one_c]
theorem C_zero : C (0 : R) = 0 := serEq fun n => by rw [C_c, zero_c]; split <;> rfl
theorem C_neg (r : R) : C (-r) = - C r := serEq fun n => by
  rw [neg_c, C_c, C_c]
  split <;> grind
theorem X_mul0 (f : Ser R) : (X * f).c 0 = 0 := by
  rw [mul_c, mulc_zero]
  show (0 : R) * _ = 0
  grind
theorem X_mul (f : Ser R) (n : Nat) : (X * f).c (n + 1) = f.c n := by
  rw [mul_c, mulc_succ]
  have e : (fun i => (X : Ser R).c (i + 1)) = K 1 := by
    funext i
    show (if i + 1 = 1 then (1 : R) else 0) = if i = 0 then 1 else 0
    by_cases h : i = 0
    · rw [if_pos h, if_pos (by omega)]
    · rw [if_neg h, if_neg (by omega)]
  rw [e, mulc_K]
  show (0 : R) * _ + _ = _
  grind
def Dg (f : Ser R) (d : Nat) : Prop := ∀ n, d ≤ n → f.c n = 0
def Pol (f : Ser R) : Prop := ∃ d, Dg f d
theorem Dg.mono {f : Ser R} {d e : Nat} (h : Dg f d) (he : d ≤ e) : Dg f e := fun n hn => h n (Nat.le_trans he hn)
theorem Dg.add {f g : Ser R} {d : Nat} (h : Dg f d) (h' : Dg g d) : Dg (f + g) d := fun n hn => by rw [add_c, h n hn, h' n hn]; grind
theorem Dg.sub {f g : Ser R} {d : Nat} (h : Dg f d) (h' : Dg g d) : Dg (f - g) d := fun n hn => by rw [sub_c, h n hn, h' n hn]; grind
theorem Dg.neg {f : Ser R} {d : Nat} (h : Dg f d) : Dg (-f) d := fun n hn => by rw [neg_c, h n hn]; grind
theorem Dg.C {r : R} : Dg (C r) 1 := fun n hn => by rw [C_c, if_neg (by omega)]
theorem Dg.zero : Dg (0 : Ser R) 0 := fun n _ => zero_c n
theorem Dg.smul {r : R} {f : Ser R} {d : Nat} (h : Dg f d) : Dg (MS.C r * f) d := fun n hn => by rw [C_mul, h n hn]; grind
theorem Dg.X {f : Ser R} {d : Nat} (h : Dg f d) : Dg (X * f) (d + 1) := fun n hn => by
  obtain ⟨m, rfl⟩ : ∃ m, n = m + 1 := ⟨n - 1, by omega⟩
  rw [X_mul, h m (by omega)]
theorem above {g : Nat → R} {j : Nat} (hg : ∀ m, j ≤ m → g m = 0) : ∀ (i : Nat) (f : Nat → R) (n : Nat), (∀ m, i ≤ m → f m = 0) → i + j ≤ n + 1 → mulc f g n = 0
  | 0, f, n, hf, hn => by
    have e : f = fun _ => 0 := by funext m; exact hf m (Nat.zero_le _)
    rw [e, mulc_zero_left]
  | i + 1, f, 0, hf, hn => by
    have : j = 0 := by omega
    rw [mulc_zero, hg 0 (by omega)]; grind
  | i + 1, f, n + 1, hf, hn => by
    rw [mulc_succ, hg (n + 1) (by omega), above hg i (fun m => f (m + 1)) n (fun m hm => hf (m + 1) (by omega)) (by omega)]
    grind
theorem topc {g : Nat → R} {j : Nat} (hg : ∀ m, j < m → g m = 0) : ∀ (i : Nat) (f : Nat → R), (∀ m, i < m → f m = 0) → mulc f g (i + j) = f i * g j
  | 0, f, hf => by
    cases j with
    | zero => rw [mulc_zero]
    | succ j =>
      rw [Nat.zero_add, mulc_succ]
      have e : (fun i => f (i + 1)) = fun _ => 0 := by funext m; exact hf (m + 1) (by omega)
      rw [e, mulc_zero_left]; grind
  | i + 1, f, hf => by
    rw [show i + 1 + j = (i + j) + 1 by omega, mulc_succ, hg _ (by omega), topc hg i (fun m => f (m + 1)) fun m hm => hf (m + 1) (by omega)]
    grind
theorem Dg.mul {f g : Ser R} {d e : Nat} (h : Dg f d) (h' : Dg g e) : Dg (f * g) (d + e - 1) := fun n hn => by
  rw [mul_c]
  exact above (j := e) h' d f.c n h (by omega)
theorem Pol.add {f g : Ser R} (h : Pol f) (h' : Pol g) : Pol (f + g) := by
  obtain ⟨d, h⟩ := h
  obtain ⟨e, h'⟩ := h'
  exact ⟨max d e, (h.mono (by omega)).add (h'.mono (by omega))⟩
theorem Pol.neg {f : Ser R} (h : Pol f) : Pol (-f) := by
  obtain ⟨d, h⟩ := h
  exact ⟨d, h.neg⟩
theorem Pol.sub {f g : Ser R} (h : Pol f) (h' : Pol g) : Pol (f - g) := by
  obtain ⟨d, h⟩ := h
  obtain ⟨e, h'⟩ := h'
  exact ⟨max d e, (h.mono (by omega)).sub (h'.mono (by omega))⟩
theorem Pol.mul {f g : Ser R} (h : Pol f) (h' : Pol g) : Pol (f * g) := by
  obtain ⟨d, h⟩ := h
  obtain ⟨e, h'⟩ := h'
  exact ⟨_, h.mul h'⟩
theorem Pol.C {r : R} : Pol (C r) := ⟨1, Dg.C⟩
theorem Pol.zero : Pol (0 : Ser R) := ⟨0, Dg.zero⟩
theorem Pol.one : Pol (1 : Ser R) := C_one (R := R) ▸ Pol.C
/-- the degree -/
def Ln (f : Ser R) (m : Nat) : Prop := f.c m ≠ 0 ∧ Dg f (m + 1)
theorem Ln.of {f : Ser R} : ∀ (d : Nat), Dg f d → f ≠ 0 → ∃ m, m < d ∧ Ln f m
  | 0, h, hf => absurd (serEq fun n => by rw [zero_c]; exact h n (Nat.zero_le _)) hf
  | d + 1, h, hf => by
    by_cases e : f.c d = 0
    · have : Dg f d := fun n hn => by
        by_cases z : n = d
        · subst z; exact e
        · exact h n (by omega)
      obtain ⟨m, h1, h2⟩ := Ln.of d this hf
      exact ⟨m, by omega, h2⟩
    · exact ⟨d, by omega, e, h⟩
theorem Ln.lt {f : Ser R} {m d : Nat} (h : Ln f m) (h' : Dg f d) : m < d := Nat.lt_of_not_le fun z => h.1 (h' m z)
theorem Ln.ne {f : Ser R} {m : Nat} (h : Ln f m) : f ≠ 0 := fun z => h.1 (by rw [z, zero_c])
end
theorem Ln.mulI {f g : Ser Int} {m n : Nat} (h : Ln f m) (h' : Ln g n) : Ln (f * g) (m + n) := by
  refine ⟨?_, fun k hk => ?_⟩
  · rw [mul_c, topc (fun k hk => h'.2 k hk) m f.c fun k hk => h.2 k hk]
    intro z
    rcases Int.mul_eq_zero.mp z with z | z
    · exact h.1 z
    · exact h'.1 z
  · exact (h.2.mul h'.2) k (by omega)
/-! divisibility by a number -/
def Cd (d : Int) (f : Ser Int) : Prop := ∀ n, d ∣ f.c n
theorem Cd.quot {d : Int} {f : Ser Int} (h : Cd d f) : ∃ g, f = C d * g ∧ (∀ e, Dg f e → Dg g e) := by
  refine ⟨⟨fun n => f.c n / d⟩, serEq fun n => ?_, fun e he n hn => ?_⟩
  · rw [C_mul]
    exact (Int.mul_ediv_cancel' (h n)).symm
  · show f.c n / d = 0
    rw [he n hn, Int.zero_ediv]
theorem C_neI {d : Int} (h : d ≠ 0) : C d ≠ (0 : Ser Int) := fun z => h (by have := congrArg (fun f => f.c 0) z; exact this)
theorem cd_joint : ∀ (n : Nat) (m : Int), m.natAbs = n → m ≠ 0 → ∀ {t b w : Ser Int}, (∀ d, Cd d t → Cd d b → d ∣ 1) → Cd m (t * w) → Cd m (b * w) → Cd m w := by
  intro n
  induction n using Nat.strongRecOn with
  | ind n ih =>
    intro m hm h0 t b w hu h1 h2
    by_cases hn : n ≤ 1
    · intro k
      have : m.natAbs = 1 := by omega
      exact Int.natAbs_dvd.mp (by rw [this]; exact Int.one_dvd _)
    · obtain ⟨p, pp, pd⟩ := prime_of (n := n) (by omega)
      have pm : p ∣ m := by
        rw [← hm] at pd
        exact Int.dvd_natAbs.mp pd
      have hw : Cd p w := by
        rcases (pr_prime pp).gauss (f := t) (g := w) (fun k => Int.dvd_trans pm (h1 k)) with z | z
        · rcases (pr_prime pp).gauss (f := b) (g := w) (fun k => Int.dvd_trans pm (h2 k)) with z' | z'
          · have := hu p z z'
            have := Int.le_of_dvd (by decide) this
            have := pp.1
            omega
          · exact z'
        · exact z
      obtain ⟨w', rfl, _⟩ := hw.quot
      obtain ⟨m', rfl⟩ := pm
      have p0 : p ≠ 0 := by have := pp.1; omega
      have dv : ∀ {f : Ser Int}, Cd (p * m') (f * (C p * w')) → Cd m' (f * w') := fun {f} h k => by
        have := h k
        rw [show f * (C p * w') = C p * (f * w') by grind, C_mul] at this
        exact Int.dvd_of_mul_dvd_mul_left p0 this
      have small : m'.natAbs < n := by
        rw [Int.natAbs_mul] at hm
        have h3 : 1 < p.natAbs := by have := pp.1; omega
        have h4 : 0 < m'.natAbs := by
          have : m' ≠ 0 := fun z => h0 (by rw [z]; simp)
          omega
        rw [← hm]
        have := Nat.mul_lt_mul_of_pos_right h3 h4
        omega
      have r := ih m'.natAbs small m' rfl (fun z => h0 (by rw [z]; simp)) hu (dv h1) (dv h2)
      intro k
      rw [C_mul]
      exact Int.mul_dvd_mul_left p (r k)
def Prim (f : Ser Int) : Prop := ∀ d, Cd d f → d ∣ 1
theorem Prim.gauss {f g : Ser Int} {m : Int} (h : Prim f) (hm : m ≠ 0) (x : Cd m (f * g)) : Cd m g := cd_joint _ m rfl hm (fun d z _ => h d z) x x
/-! divides, up to a number -/
def Dq (g f : Ser Int) : Prop := ∃ m : Int, m ≠ 0 ∧ ∃ q, Pol q ∧ C m * f = g * q
theorem Dq.refl {g : Ser Int} : Dq g g := ⟨1, by decide, 1, Pol.one, by rw [C_one]; grind⟩
theorem Dq.zero {g : Ser Int} : Dq g 0 := ⟨1, by decide, 0, Pol.zero, by rw [C_one]; grind⟩
theorem Dq.lin {g x y p q : Ser Int} (h : Dq g x) (h' : Dq g y) (hp : Pol p) (hq : Pol q) : Dq g (p * x + q * y) := by
  obtain ⟨m, hm, a, pa, ea⟩ := h
  obtain ⟨n, hn, b, pb, eb⟩ := h'
  refine ⟨m * n, Int.mul_ne_zero hm hn, p * C n * a + q * C m * b, ((hp.mul Pol.C).mul pa).add ((hq.mul Pol.C).mul pb), ?_⟩
  rw [← C_mulC]
  grind
theorem Dq.of_smul {g x : Ser Int} {c : Int} (hc : c ≠ 0) (h : Dq g (C c * x)) : Dq g x := by
  obtain ⟨m, hm, q, pq, e⟩ := h
  refine ⟨m * c, Int.mul_ne_zero hm hc, q, pq, ?_⟩
  rw [← C_mulC]
  grind
theorem Dq.smul {g x : Ser Int} {c : Int} (h : Dq g x) : Dq g (C c * x) := by
  obtain ⟨m, hm, q, pq, e⟩ := h
  exact ⟨m, hm, C c * q, Pol.C.mul pq, by grind⟩
theorem Dq.exact {g f : Ser Int} (hg : Prim g) (h : Dq g f) : ∃ q, Pol q ∧ f = g * q := by
  obtain ⟨m, hm, q, pq, e⟩ := h
  have : Cd m (g * q) := fun k => by rw [← e, C_mul]; exact Int.dvd_mul_right _ _
  obtain ⟨q', rfl, hd⟩ := (hg.gauss hm this).quot
  obtain ⟨d, pd⟩ := pq
  refine ⟨q', ⟨d, hd d pd⟩, cancelI (C_neI hm) ?_⟩
  grind
/-- the state of Euclid's walk -/
structure Eu (a0 b0 a b : Ser Int) : Prop where
  one : ∃ (k : Int) (u v : Ser Int), k ≠ 0 ∧ Pol u ∧ Pol v ∧ C k * a = u * a0 + v * b0
  two : ∃ (k : Int) (u v : Ser Int), k ≠ 0 ∧ Pol u ∧ Pol v ∧ C k * b = u * a0 + v * b0
  back : ∀ g, Dq g a → Dq g b → Dq g a0 ∧ Dq g b0
theorem Eu.start (a b : Ser Int) : Eu a b a b :=
  ⟨⟨1, 1, 0, by decide, Pol.one, Pol.zero, by rw [C_one]; grind⟩, ⟨1, 0, 1, by decide, Pol.zero, Pol.one, by rw [C_one]; grind⟩, fun g h h' => ⟨h, h'⟩⟩
theorem Eu.step {a0 b0 a b r q : Ser Int} {c m : Int} (h : Eu a0 b0 a b) (hc : c ≠ 0) (hm : m ≠ 0) (pq : Pol q) (e : C c * a = q * b + C m * r) : Eu a0 b0 b r := by
  obtain ⟨k, u, v, hk, pu, pv, e1⟩ := h.one
  obtain ⟨l, x, y, hl, px, py, e2⟩ := h.two
  refine ⟨h.two, ⟨k * l * m, C (c * l) * u - C k * (q * x), C (c * l) * v - C k * (q * y), Int.mul_ne_zero (Int.mul_ne_zero hk hl) hm, (Pol.C.mul pu).sub (Pol.C.mul (pq.mul px)), (Pol.C.mul pv).sub (Pol.C.mul (pq.mul py)), ?_⟩, fun g h1 h2 => ?_⟩
  · have e3 : C k * C l * (C m * r) = C c * C l * (C k * a) - C k * (q * (C l * b)) := by
      rw [show C m * r = C c * a - q * b by grind]
      grind
    rw [← C_mulC, ← C_mulC, ← C_mulC]
    grind
  · have : Dq g (C c * a) := by rw [e]; exact h1.lin h2 pq Pol.C
    exact h.back g (this.of_smul hc) h1
/-- the quotient of two in lowest terms -/
theorem lowest {a0 b0 g : Ser Int} (h : Eu a0 b0 g 0) (hg : Prim g) (h0 : g ≠ 0) : ∃ t b u v : Ser Int, ∃ k : Int, k ≠ 0 ∧ Pol t ∧ Pol b ∧ Pol u ∧ Pol v ∧ a0 = g * t ∧ b0 = g * b ∧ u * t + v * b = C k := by
  obtain ⟨d1, d2⟩ := h.back g Dq.refl Dq.zero
  obtain ⟨t, pt, rfl⟩ := d1.exact hg
  obtain ⟨b, pb, rfl⟩ := d2.exact hg
  obtain ⟨k, u, v, hk, pu, pv, e⟩ := h.one
  exact ⟨t, b, u, v, k, hk, pt, pb, pu, pv, rfl, rfl, cancelI h0 (by grind)⟩
/-- what stands for the same quotient is a multiple -/
theorem multiple {t b u v t1 b1 : Ser Int} {k : Int} (hk : k ≠ 0) (pu : Pol u) (pv : Pol v) (e : u * t + v * b = C k) {f : Int} {t' b' : Ser Int} (et : t = C f * t') (eb : b = C f * b')
    (ju : ∀ d, Cd d t' → Cd d b' → d ∣ 1) (p1 : Pol t1) (p2 : Pol b1) (x : t1 * b = t * b1) : ∃ q, Pol q ∧ t1 = t' * q ∧ b1 = b' * q := by
  subst et eb
  have y1 : C k * t1 = t' * (C f * (u * t1 + v * b1)) := by rw [← e]; grind
  have y2 : C k * b1 = b' * (C f * (u * t1 + v * b1)) := by rw [← e]; grind
  have c1 : Cd k (t' * (C f * (u * t1 + v * b1))) := fun n => by rw [← y1, C_mul]; exact Int.dvd_mul_right _ _
  have c2 : Cd k (b' * (C f * (u * t1 + v * b1))) := fun n => by rw [← y2, C_mul]; exact Int.dvd_mul_right _ _
  obtain ⟨q, eq, hq⟩ := (cd_joint _ k rfl hk ju c1 c2).quot
  obtain ⟨d, pd⟩ : Pol (C f * (u * t1 + v * b1)) := Pol.C.mul ((pu.mul p1).add (pv.mul p2))
  rw [eq] at y1 y2
  exact ⟨q, ⟨d, hq d pd⟩, cancelI (C_neI hk) (by grind), cancelI (C_neI hk) (by grind)⟩
end MS

/-! lists of coefficients -/
namespace MS
open Lean.Grind
def P (l : List Int) : Ser Int := ⟨fun n => l.getD n 0⟩
theorem P_c (l : List Int) (n : Nat) : (P l).c n = l.getD n 0 := rfl
theorem P_nil : P [] = 0 := serEq fun n => by rw [P_c, zero_c]; rfl
theorem P_cons (a : Int) (l : List Int) : P (a :: l) = C a + X * P l := serEq fun n => by
  rw [add_c, C_c, P_c]
  cases n with
  | zero => rw [X_mul0, if_pos rfl]; simp
  | succ n => rw [X_mul, if_neg (by omega), P_c]; simp
theorem P_dg (l : List Int) : Dg (P l) l.length := fun n hn => by
  rw [P_c, List.getD_eq_getElem?_getD, List.getElem?_eq_none hn]; rfl
theorem P_mem {l : List Int} {n : Nat} (h : n < l.length) : (P l).c n ∈ l := by
  rw [P_c, List.getD_eq_getElem?_getD, List.getElem?_eq_getElem h]
  exact List.getElem_mem h
def Tr (l : List Int) : Prop := ∀ h : l ≠ [], l.getLast h ≠ 0
theorem Tr.ln {l : List Int} (h : Tr l) (hn : l ≠ []) : Ln (P l) (l.length - 1) := by
  have hl : 0 < l.length := List.length_pos_iff.mpr hn
  refine ⟨?_, fun n hk => P_dg l n (by omega)⟩
  rw [P_c, List.getD_eq_getElem?_getD, List.getElem?_eq_getElem (by omega)]
  have := h hn
  rw [List.getLast_eq_getElem] at this
  exact this
theorem Tr.nil {l : List Int} (h : Tr l) (e : P l = 0) : l = [] := Classical.byContradiction fun hn => (h.ln hn).ne e
theorem Tr.inj {a b : List Int} (ha : Tr a) (hb : Tr b) (e : P a = P b) : a = b := by
  by_cases h : a = []
  · subst h
    rw [P_nil] at e
    exact (hb.nil e.symm).symm
  · by_cases h' : b = []
    · subst h'
      rw [P_nil] at e
      exact ha.nil e
    · have la : 0 < a.length := List.length_pos_iff.mpr h
      have lb : 0 < b.length := List.length_pos_iff.mpr h'
      have h1 := ha.ln h
      have h2 := hb.ln h'
      have hl : a.length = b.length := by
        have x1 := h1.lt (e ▸ P_dg b)
        have x2 := h2.lt (e ▸ P_dg a)
        omega
      refine List.ext_getElem hl fun n i j => ?_
      have := congrArg (fun f => f.c n) e
      simpa [P_c, List.getD_eq_getElem?_getD, List.getElem?_eq_getElem i, List.getElem?_eq_getElem j] using this
theorem P_of {f : Ser Int} {d : Nat} (h : Dg f d) : ∃ l : List Int, l.length = d ∧ P l = f := by
  refine ⟨(List.range d).map f.c, by simp, serEq fun n => ?_⟩
  rw [P_c, List.getD_eq_getElem?_getD]
  by_cases hn : n < d
  · simp [hn]
  · rw [List.getElem?_eq_none (by simp; omega)]
    exact (h n (by omega)).symm
/-! values -/
def ev : List Int → Int → Int
  | [], _ => 0
  | a :: l, x => a + x * ev l x
theorem ev_cons (a : Int) (l : List Int) (x : Int) : ev (a :: l) x = a + x * ev l x := rfl
theorem ev_zero : ∀ (l : List Int), P l = 0 → ∀ x, ev l x = 0
  | [], _, _ => rfl
  | a :: l, h, x => by
    have h0 : a = 0 := by
      have := congrArg (fun f => f.c 0) h
      simpa [P_c, zero_c] using this
    have h1 : P l = 0 := serEq fun n => by
      have := congrArg (fun f => f.c (n + 1)) h
      simpa [P_c, zero_c] using this
    unfold ev
    rw [h0, ev_zero l h1 x]
    simp
theorem ev_congr : ∀ (a b : List Int), P a = P b → ∀ x, ev a x = ev b x
  | [], b, h, x => by rw [ev_zero b (h ▸ P_nil) x]; rfl
  | a :: l, [], h, x => by rw [ev_zero (a :: l) (h.trans P_nil) x]; rfl
  | a :: l, b :: m, h, x => by
    have h0 : a = b := by
      have := congrArg (fun f => f.c 0) h
      simpa [P_c] using this
    have h1 : P l = P m := serEq fun n => by
      have := congrArg (fun f => f.c (n + 1)) h
      simpa [P_c] using this
    unfold ev
    rw [h0, ev_congr l m h1 x]
def addL : List Int → List Int → List Int
  | [], b => b
  | a, [] => a
  | a :: l, b :: m => (a + b) :: addL l m
theorem addL_P : ∀ (a b : List Int), P (addL a b) = P a + P b
  | [], b => by rw [addL, P_nil]; grind
  | a :: l, [] => by
    rw [addL, P_nil]
    · grind
    · simp
  | a :: l, b :: m => by rw [addL, P_cons, P_cons, P_cons, addL_P l m, ← C_add]; grind
theorem addL_ev : ∀ (a b : List Int) (x : Int), ev (addL a b) x = ev a x + ev b x
  | [], b, x => by rw [addL]; simp [ev]
  | a :: l, [], x => by
    rw [addL]
    · simp [ev]
    · simp
  | a :: l, b :: m, x => by rw [addL, ev_cons, ev_cons, ev_cons, addL_ev l m x]; grind
theorem smL_P (c : Int) : ∀ (a : List Int), P (a.map (c * ·)) = C c * P a
  | [] => by rw [List.map_nil, P_nil]; grind
  | a :: l => by rw [List.map_cons, P_cons, P_cons, smL_P c l, ← C_mulC]; grind
theorem smL_ev (c x : Int) : ∀ (a : List Int), ev (a.map (c * ·)) x = c * ev a x
  | [] => by simp [ev]
  | a :: l => by rw [List.map_cons, ev_cons, ev_cons, smL_ev c x l]; grind
def mulL : List Int → List Int → List Int
  | [], _ => []
  | a :: l, b => addL (b.map (a * ·)) (0 :: mulL l b)
theorem mulL_P : ∀ (a b : List Int), P (mulL a b) = P a * P b
  | [], b => by rw [mulL, P_nil]; grind
  | a :: l, b => by rw [mulL, addL_P, smL_P, P_cons, P_cons, mulL_P l b, C_zero]; grind
theorem mulL_ev : ∀ (a b : List Int) (x : Int), ev (mulL a b) x = ev a x * ev b x
  | [], b, x => by rw [mulL]; simp [ev]
  | a :: l, b, x => by rw [mulL, addL_ev, smL_ev, ev_cons, ev_cons, mulL_ev l b x]; grind
theorem ev_mul {f q h : List Int} (e : P h = P f * P q) (x : Int) : ev h x = ev f x * ev q x := by
  rw [← mulL_ev]
  exact ev_congr _ _ (e.trans (mulL_P f q).symm) x
/-! sizes -/
def Sz (n : Nat) (i : Int) : Prop := i.natAbs < 2 ^ n
theorem Sz.mono {i : Int} {n m : Nat} (h : Sz n i) (hm : n ≤ m) : Sz m i := Nat.lt_of_lt_of_le h (Nat.pow_le_pow_right (by decide) hm)
theorem Sz.mul {i j : Int} {n m : Nat} (hi : Sz n i) (hj : Sz m j) : Sz (n + m) (i * j) := by
  unfold Sz at *
  rw [Int.natAbs_mul, Nat.pow_add]
  exact Nat.mul_lt_mul'' hi hj
theorem Sz.neg {i : Int} {n : Nat} (h : Sz n i) : Sz n (-i) := by unfold Sz; rw [Int.natAbs_neg]; exact h
theorem Sz.add {i j : Int} {n : Nat} (hi : Sz n i) (hj : Sz n j) : Sz (n + 1) (i + j) := by
  unfold Sz at *
  rw [Nat.pow_succ]
  have := Int.natAbs_add_le i j
  omega
theorem Sz.sub {i j : Int} {n : Nat} (hi : Sz n i) (hj : Sz n j) : Sz (n + 1) (i - j) := by
  rw [Int.sub_eq_add_neg]; exact hi.add hj.neg
theorem Sz.zero {n : Nat} : Sz n 0 := by unfold Sz; exact Nat.pow_pos (by decide)
def Bd (n : Nat) (l : List Int) : Prop := ∀ x ∈ l, Sz n x
def Bs (n : Nat) (f : Ser Int) : Prop := ∀ k, Sz n (f.c k)
theorem Bd.ser {n : Nat} {l : List Int} (h : Bd n l) : Bs n (P l) := fun k => by
  by_cases hk : k < l.length
  · exact h _ (P_mem hk)
  · rw [P_dg l k (by omega)]; exact Sz.zero
theorem Bs.list {n : Nat} {l : List Int} (h : Bs n (P l)) : Bd n l := fun x hx => by
  obtain ⟨k, hk, rfl⟩ := List.mem_iff_getElem.mp hx
  have := h k
  rwa [P_c, List.getD_eq_getElem?_getD, List.getElem?_eq_getElem hk] at this
theorem Bd.mono {n m : Nat} {l : List Int} (h : Bd n l) (hm : n ≤ m) : Bd m l := fun x hx => (h x hx).mono hm
theorem Bs.mono {n m : Nat} {l : Ser Int} (h : Bs n l) (hm : n ≤ m) : Bs m l := fun x => (h x).mono hm
theorem ev_size {b t : Nat} {x : Int} (hx : Sz t x) : ∀ (l : List Int), Bd b l → Sz (b + l.length * (t + 1)) (ev l x)
  | [], _ => by unfold ev; exact Sz.zero
  | a :: l, h => by
    have h1 := ev_size hx l fun y hy => h y (List.mem_cons_of_mem _ hy)
    have h2 := h a List.mem_cons_self
    unfold ev
    have h3 := hx.mul h1
    have e : b + (a :: l).length * (t + 1) = (t + (b + l.length * (t + 1))) + 1 := by rw [List.length_cons]; grind
    rw [e]
    exact (h2.mono (by omega)).add h3
theorem ev_ne {b : Nat} {x : Int} (hx : 2 ^ b ≤ x) : ∀ (l : List Int), Bd b l → Tr l → l ≠ [] → ev l x ≠ 0
  | [], _, _, h => absurd rfl h
  | [a], _, h, _ => by
    unfold ev ev
    have := h (by simp)
    simp at this
    omega
  | a :: c :: l, hb, ht, _ => by
    have ih := ev_ne hx (c :: l) (fun y hy => hb y (List.mem_cons_of_mem _ hy)) (fun h => by have := ht (by simp); rwa [List.getLast_cons h] at this) (by simp)
    have ha : a.natAbs < 2 ^ b := hb a List.mem_cons_self
    have hp : (0 : Int) < 2 ^ b := Int.pow_pos (by decide)
    have hx' : x.natAbs ≥ 2 ^ b := by
      have : ((2 ^ b : Nat) : Int) ≤ x := by rw [Int.natCast_pow]; exact hx
      omega
    unfold ev
    intro z
    have e1 : x * ev (c :: l) x = -a := by omega
    have e2 : x.natAbs * (ev (c :: l) x).natAbs = a.natAbs := by rw [← Int.natAbs_mul, e1, Int.natAbs_neg]
    have h3 : 1 ≤ (ev (c :: l) x).natAbs := by omega
    have h4 : x.natAbs * 1 ≤ x.natAbs * (ev (c :: l) x).natAbs := Nat.mul_le_mul_left _ h3
    omega
/-- f = f(s) + (x - s) h -/
def syn : List Int → Int → List Int
  | [], _ => []
  | _ :: l, s => addL l ((syn l s).map (s * ·))
theorem addL_len : ∀ (a b : List Int), b.length ≤ a.length → (addL a b).length = a.length
  | [], b, h => by simp [addL]; simpa using h
  | a :: l, [], h => by simp [addL]
  | a :: l, b :: m, h => by
    rw [addL, List.length_cons, List.length_cons, addL_len l m (by simpa using h)]
theorem syn_len : ∀ (l : List Int) (s : Int), (syn l s).length = l.length - 1
  | [], _ => rfl
  | a :: l, s => by
    rw [syn, addL_len _ _ (by rw [List.length_map, syn_len l s]; omega), List.length_cons]
    omega
theorem syn_ev (s x : Int) : ∀ (l : List Int), ev l x = ev l s + (x - s) * ev (syn l s) x
  | [] => by simp [ev, syn]
  | a :: l => by
    rw [syn, addL_ev, smL_ev, ev_cons, ev_cons]
    have := syn_ev s x l
    grind
theorem syn_P (s : Int) : ∀ (l : List Int), P l = C (ev l s) + (X - C s) * P (syn l s)
  | [] => by simp only [syn, ev, P_nil, C_zero]; grind
  | a :: l => by
    rw [syn, addL_P, smL_P, P_cons, ev_cons]
    have := syn_P s l
    rw [← C_add, ← C_mulC]
    grind
/-- few coefficients, small values at as many places: small coefficients -/
theorem coef_bound {t : Nat} : ∀ (n v : Nat) (l : List Int) (s : Int), l.length = n → (∀ i : Nat, i < n → Sz t (s + i)) → (∀ i : Nat, i < n → Sz v (ev l (s + i))) → Bd (v + n * (t + 2)) l
  | 0, v, l, s, hl, _, _ => by
    have : l = [] := List.length_eq_zero_iff.mp hl
    subst this
    intro x hx
    simp at hx
  | n + 1, v, l, s, hl, hi, hv => by
    have hs : Sz t s := by
      have := hi 0 (by omega)
      simpa using this
    have hh : (syn l s).length = n := by rw [syn_len, hl]; rfl
    have hv0 : Sz v (ev l s) := by
      have := hv 0 (by omega)
      simpa using this
    have ih := coef_bound (t := t) n (v + 1) (syn l s) (s + 1) hh (fun i hi' => by
        have := hi (i + 1) (by omega)
        rw [show s + 1 + (i : Int) = s + ((i + 1 : Nat) : Int) by omega]
        exact this) (fun i hi' => by
        have e := syn_ev s (s + 1 + (i : Int)) l
        have h1 := hv (i + 1) (by omega)
        rw [show s + ((i + 1 : Nat) : Int) = s + 1 + (i : Int) by omega] at h1
        have h2 := h1.sub hv0
        have e' : ev l (s + 1 + (i : Int)) - ev l s = (1 + (i : Int)) * ev (syn l s) (s + 1 + (i : Int)) := by rw [e]; grind
        rw [e'] at h2
        unfold Sz at h2 ⊢
        rw [Int.natAbs_mul] at h2
        have : 1 ≤ (1 + (i : Int)).natAbs := by omega
        exact Nat.lt_of_le_of_lt (by have := Nat.mul_le_mul_right (ev (syn l s) (s + 1 + (i : Int))).natAbs this; omega) h2)
    have hB := ih.ser
    have key : Bs (v + (n + 1) * (t + 2)) (P l) := fun k => by
      rw [syn_P s l, show (X - C s) * P (syn l s) = X * P (syn l s) - C s * P (syn l s) by grind, add_c, sub_c, C_mul, C_c]
      have w : v + (n + 1) * (t + 2) = (v + 1 + n * (t + 2) + t) + 1 := by grind
      rw [w]
      have a1 : Sz (v + 1 + n * (t + 2) + t) (s * (P (syn l s)).c k) := by
        have := hs.mul (hB k)
        exact this.mono (by omega)
      cases k with
      | zero =>
        rw [X_mul0, if_pos rfl, Int.zero_sub]
        exact (hv0.mono (by omega)).add a1.neg
      | succ k =>
        rw [X_mul, if_neg (by omega), Int.zero_add]
        exact ((hB k).mono (by omega)).sub a1
    exact key.list
theorem Tr.of_top {l : List Int} {m : Nat} (hl : l.length = m + 1) (h : (P l).c m ≠ 0) : Tr l := fun hn => by
  rw [List.getLast_eq_getElem]
  rw [P_c, List.getD_eq_getElem?_getD, List.getElem?_eq_getElem (by omega)] at h
  simpa [hl] using h
/-- a factor of a polynomial with small coefficients has small coefficients -/
theorem factor_bound {f q h : Ser Int} {b L : Nat} (e : f * q = h) (pf : Pol f) (pq : Pol q) (h0 : h ≠ 0) (hb : Bs b h) (hL : Dg h L) (hLb : L ≤ 2 ^ b) : Dg f L ∧ Bs (b + L * (2 * b + 5)) f := by
  have f0 : f ≠ 0 := fun z => h0 (by rw [← e, z]; grind)
  have q0 : q ≠ 0 := fun z => h0 (by rw [← e, z]; grind)
  obtain ⟨df, pf⟩ := pf
  obtain ⟨dq, pq⟩ := pq
  obtain ⟨i, _, hi⟩ := Ln.of df pf f0
  obtain ⟨j, _, hj⟩ := Ln.of dq pq q0
  have hij := hi.mulI hj
  rw [e] at hij
  have hlt := hij.lt hL
  have dgf : Dg f L := hi.2.mono (by omega)
  refine ⟨dgf, ?_⟩
  obtain ⟨lf, lenf, ef⟩ := P_of dgf
  obtain ⟨lq, _, eq⟩ := P_of pq
  obtain ⟨lh, lenh, eh⟩ := P_of hij.2
  have tr : Tr lh := Tr.of_top lenh (by rw [eh]; exact hij.1)
  have bh : Bd b lh := Bs.list (by rw [eh]; exact hb)
  have place : ∀ k : Nat, k < L → Sz (b + 1) ((2 : Int) ^ b + k) := fun k hk => by
    unfold Sz
    have : ((2 : Int) ^ b + k).natAbs = 2 ^ b + k := by
      rw [show (2 : Int) ^ b + k = ((2 ^ b + k : Nat) : Int) by push_cast; rfl]
      exact Int.natAbs_natCast _
    rw [this, Nat.pow_succ]
    omega
  have val : ∀ k : Nat, k < L → Sz (b + L * (b + 2)) (ev lf ((2 : Int) ^ b + k)) := fun k hk => by
    have hx := place k hk
    have h1 := ev_size hx lh bh
    have h2 := ev_ne (x := (2 : Int) ^ b + k) (by omega) lh bh tr (by intro z; rw [z] at lenh; simp at lenh)
    have h3 := ev_mul (f := lf) (q := lq) (h := lh) (by rw [ef, eq, eh, e]) ((2 : Int) ^ b + k)
    have h4 : Sz (b + L * (b + 2)) (ev lh ((2 : Int) ^ b + k)) := h1.mono (by
      have : lh.length * (b + 1 + 1) ≤ L * (b + 2) := Nat.mul_le_mul_right _ (by omega)
      omega)
    have h5 : ev lq ((2 : Int) ^ b + k) ≠ 0 := fun z => h2 (by rw [h3, z, Int.mul_zero])
    unfold Sz at h4 ⊢
    rw [h3, Int.natAbs_mul] at h4
    have h6 : 1 ≤ (ev lq ((2 : Int) ^ b + k)).natAbs := by omega
    have h7 := Nat.mul_le_mul_left (ev lf ((2 : Int) ^ b + k)).natAbs h6
    omega
  have hB := coef_bound (t := b + 1) L (b + L * (b + 2)) lf ((2 : Int) ^ b) lenf place val
  have := hB.ser
  rw [ef] at this
  exact this.mono (by
    have : L * (2 * b + 5) = L * (b + 2) + L * (b + 1 + 2) := by grind
    omega)
/-! shifts -/
def Sh (k : Nat) : Ser Int := ⟨fun n => if n = k then 1 else 0⟩
theorem Sh_zero : Sh 0 = 1 := serEq fun n => rfl
theorem Sh_succ (k : Nat) : Sh (k + 1) = X * Sh k := serEq fun n => by
  cases n with
  | zero => rw [X_mul0]; rfl
  | succ n =>
    rw [X_mul]
    show (if n + 1 = k + 1 then (1 : Int) else 0) = if n = k then 1 else 0
    by_cases h : n = k
    · rw [if_pos h, if_pos (by omega)]
    · rw [if_neg h, if_neg (by omega)]
theorem Sh_mul_low (k n : Nat) (f : Ser Int) (h : n < k) : (Sh k * f).c n = 0 := by
  induction k generalizing n with
  | zero => omega
  | succ k ih =>
    rw [Sh_succ, show X * Sh k * f = X * (Sh k * f) by grind]
    cases n with
    | zero => exact X_mul0 _
    | succ n => rw [X_mul]; exact ih n (by omega)
theorem Sh_mul (k n : Nat) (f : Ser Int) : (Sh k * f).c (k + n) = f.c n := by
  induction k with
  | zero => rw [Sh_zero, Nat.zero_add, show (1 : Ser Int) * f = f by grind]
  | succ k ih => rw [Sh_succ, show X * Sh k * f = X * (Sh k * f) by grind, show k + 1 + n = (k + n) + 1 by omega, X_mul, ih]
theorem P_set {F : List Int} {i : Nat} {v : Int} (h : i < F.length) : P (F.set i (F[i] + v)) = P F + Sh i * C v := serEq fun n => by
  rw [add_c, show Sh i * C v = C v * Sh i by grind, C_mul, P_c, P_c, List.getD_eq_getElem?_getD, List.getD_eq_getElem?_getD, List.getElem?_set]
  show _ = _ + v * (if n = i then 1 else 0)
  by_cases e : i = n
  · subst e
    rw [if_pos rfl, if_pos h, if_pos rfl, List.getElem?_eq_getElem h, Int.mul_one]
    rfl
  · rw [if_neg e, if_neg (Ne.symm e), Int.mul_zero, Int.add_zero]
theorem P_setv {F : List Int} {i : Nat} {v : Int} (h : i < F.length) : P (F.set i v) = P F + Sh i * C (v - F[i]) := by
  rw [← P_set h]
  congr 2
  omega
theorem P_rep0 (k : Nat) : P (List.replicate k 0) = 0 := serEq fun n => by
  rw [P_c, zero_c, List.getD_eq_getElem?_getD, List.getElem?_replicate]
  split <;> rfl
theorem mul_size {n m : Nat} {g : Ser Int} (hg : Bs m g) : ∀ (a : List Int), Bd n a → Bs (n + m + a.length) (P a * g)
  | [], _ => fun k => by rw [P_nil, show (0 : Ser Int) * g = 0 by grind, zero_c]; exact Sz.zero
  | a :: l, h => fun k => by
    rw [P_cons, show (C a + X * P l) * g = C a * g + X * (P l * g) by grind, add_c, C_mul, List.length_cons]
    have h1 := (h a List.mem_cons_self).mul (hg k)
    have h2 : Sz (n + m + l.length) ((X * (P l * g)).c k) := by
      cases k with
      | zero => rw [X_mul0]; exact Sz.zero
      | succ k => rw [X_mul]; exact mul_size hg l (fun y hy => h y (List.mem_cons_of_mem _ hy)) k
    have h3 : Sz (n + m + l.length) (a * g.c k) := h1.mono (by omega)
    exact h3.add h2
/-! content -/
def ctf (g : Nat) (l : List Int) : Nat := l.foldl (fun g a => Nat.gcd g a.natAbs) g
def ct (l : List Int) : Nat := ctf 0 l
theorem ctf_dvd : ∀ (l : List Int) (g : Nat), ctf g l ∣ g ∧ ∀ x ∈ l, ((ctf g l : Nat) : Int) ∣ x
  | [], g => ⟨Nat.dvd_refl g, fun x hx => by simp at hx⟩
  | a :: l, g => by
    obtain ⟨h1, h2⟩ := ctf_dvd l (Nat.gcd g a.natAbs)
    refine ⟨Nat.dvd_trans h1 (Nat.gcd_dvd_left _ _), fun x hx => ?_⟩
    rcases List.mem_cons.mp hx with rfl | hx
    · exact Int.ofNat_dvd_left.mpr (Nat.dvd_trans h1 (Nat.gcd_dvd_right _ _))
    · exact h2 x hx
theorem ctf_max {d : Int} : ∀ (l : List Int) (g : Nat), d ∣ (g : Int) → (∀ x ∈ l, d ∣ x) → d ∣ ((ctf g l : Nat) : Int)
  | [], g, h, _ => h
  | a :: l, g, h, h' => by
    refine ctf_max l (Nat.gcd g a.natAbs) ?_ fun x hx => h' x (List.mem_cons_of_mem _ hx)
    have h1 := Int.natAbs_dvd_natAbs.mpr h
    have h2 := Int.natAbs_dvd_natAbs.mpr (h' a List.mem_cons_self)
    rw [Int.natAbs_natCast] at h1
    exact Int.natAbs_dvd.mp (Int.ofNat_dvd.mpr (Nat.dvd_gcd h1 h2))
theorem ct_dvd (l : List Int) : ∀ x ∈ l, ((ct l : Nat) : Int) ∣ x := (ctf_dvd l 0).2
theorem ct_max {d : Int} (l : List Int) (h : ∀ x ∈ l, d ∣ x) : d ∣ ((ct l : Nat) : Int) := ctf_max l 0 (Int.dvd_zero d) h
theorem cd_list {d : Int} {l : List Int} : Cd d (P l) ↔ ∀ x ∈ l, d ∣ x := by
  constructor
  · intro h x hx
    obtain ⟨k, hk, rfl⟩ := List.mem_iff_getElem.mp hx
    have := h k
    rwa [P_c, List.getD_eq_getElem?_getD, List.getElem?_eq_getElem hk] at this
  · intro h k
    by_cases hk : k < l.length
    · exact h _ (P_mem hk)
    · rw [P_dg l k (by omega)]; exact Int.dvd_zero d
theorem ct_ne {l : List Int} (h : Tr l) (hn : l ≠ []) : ct l ≠ 0 := fun z => by
  have := ct_dvd l _ (List.getLast_mem hn)
  rw [z] at this
  exact h hn (Int.zero_dvd.mp this)
/-- divided by a number -/
structure Divd (e : Int) (l c : List Int) : Prop where
  len : c.length = l.length
  ser : P l = C e * P c
  tr : Tr l → Tr c
  bd : ∀ n, Bd n l → Bd n c
  last : ∀ (h : l ≠ []) (h' : c ≠ []), l.getLast h = e * c.getLast h'
theorem divd {e : Int} {l : List Int} (he : e ≠ 0) (h : ∀ x ∈ l, e ∣ x) : Divd e l (l.map fun x => x.fdiv e) := by
  have key : ∀ x ∈ l, e * x.fdiv e = x := fun x hx => by
    obtain ⟨y, rfl⟩ := h x hx
    rw [Int.mul_fdiv_cancel_left _ he]
  have hl : (l.map fun x => x.fdiv e).map (e * ·) = l := by
    rw [List.map_map]
    conv => rhs; rw [← List.map_id l]
    exact List.map_congr_left fun x hx => key x hx
  have last : ∀ (h : l ≠ []) (h' : (l.map fun x => x.fdiv e) ≠ []), l.getLast h = e * (l.map fun x => x.fdiv e).getLast h' := fun h h' => by
    rw [List.getLast_map, key _ (List.getLast_mem h)]
  refine ⟨by simp, by rw [← smL_P, hl], fun t hn z => ?_, fun n hb x hx => ?_, last⟩
  · have hn' : l ≠ [] := by simpa using hn
    have := last hn' hn
    rw [z, Int.mul_zero] at this
    exact t hn' this
  · obtain ⟨y, hy, rfl⟩ := List.mem_map.mp hx
    have h1 := hb y hy
    rw [← key y hy] at h1
    unfold Sz at *
    rw [Int.natAbs_mul] at h1
    have : 1 ≤ e.natAbs := by omega
    have := Nat.mul_le_mul_right (y.fdiv e).natAbs this
    omega
theorem divd_prim {e : Int} {l c : List Int} (D : Divd e l c) (he : e.natAbs = ct l) (h0 : ct l ≠ 0) : Prim (P c) := fun d hd => by
  have h1 : Cd (e * d) (P l) := fun k => by
    rw [D.ser, C_mul]
    exact Int.mul_dvd_mul_left e (hd k)
  have h2 := ct_max l (cd_list.mp h1)
  rw [← he] at h2
  have h3 : e * d ∣ e * 1 := by
    rw [Int.mul_one]
    exact Int.dvd_natAbs.mp h2
  exact Int.dvd_of_mul_dvd_mul_left (by omega) h3
theorem P_shift (k : Nat) (l : List Int) : P (List.replicate k 0 ++ l) = Sh k * P l := by
  induction k with
  | zero => rw [Sh_zero]; simp; grind
  | succ k ih => rw [List.replicate_succ, List.cons_append, P_cons, ih, Sh_succ, C_zero]; grind
theorem Sh_pol (k : Nat) : Pol (Sh k) := ⟨k + 1, fun n hn => if_neg (by omega)⟩
theorem P_pol (l : List Int) : Pol (P l) := ⟨_, P_dg l⟩
theorem P_last {l : List Int} (h : l ≠ []) : (P l).c (l.length - 1) = l.getLast h := by
  have hl : 0 < l.length := List.length_pos_iff.mpr h
  rw [P_c, List.getD_eq_getElem?_getD, List.getElem?_eq_getElem (by omega), List.getLast_eq_getElem]
  rfl
theorem Tr.le {l : List Int} {d : Nat} (t : Tr l) (h : Dg (P l) d) : l.length ≤ d := by
  by_cases hn : l = []
  · subst hn; simp
  · have hl : 0 < l.length := List.length_pos_iff.mpr hn
    have := (t.ln hn).lt h
    omega
theorem Eu.unit {a0 b0 g h : Ser Int} {e : Int} (he : e ≠ 0) (w : g = C e * h) (E : Eu a0 b0 g 0) : Eu a0 b0 h 0 := by
  obtain ⟨k, u, v, hk, pu, pv, e1⟩ := E.one
  subst w
  refine ⟨⟨k * e, u, v, Int.mul_ne_zero hk he, pu, pv, by rw [← C_mulC]; grind⟩, E.two, fun f h1 h2 => E.back f h1.smul h2⟩
theorem three_pow (d : Nat) (h : 1 ≤ d) : d + 2 ≤ 3 ^ d := by
  induction d with
  | zero => omega
  | succ d ih =>
    by_cases z : d = 0
    · subst z; decide
    · have := ih (by omega)
      rw [Nat.pow_succ]
      omega
def lowS (n : Nat) (f : Ser Int) : Ser Int := ⟨fun k => if k < n then f.c k else 0⟩
theorem lowS_succ (n : Nat) (f : Ser Int) : lowS (n + 1) f = lowS n f + Sh n * C (f.c n) := serEq fun k => by
  rw [add_c, show Sh n * C (f.c n) = C (f.c n) * Sh n by grind, C_mul]
  show (if k < n + 1 then f.c k else 0) = (if k < n then f.c k else 0) + f.c n * (if k = n then 1 else 0)
  by_cases h1 : k < n
  · rw [if_pos (by omega), if_pos h1, if_neg (by omega)]; omega
  · by_cases h2 : k = n
    · subst h2
      rw [if_pos (by omega), if_neg h1, if_pos rfl]; omega
    · rw [if_neg (by omega), if_neg h1, if_neg h2]; omega
theorem lowS_zero (f : Ser Int) : lowS 0 f = 0 := serEq fun k => by
  rw [zero_c]
  show (if k < 0 then f.c k else 0) = 0
  rw [if_neg (by omega)]
theorem lowS_all {n : Nat} {f : Ser Int} (h : Dg f n) : lowS n f = f := serEq fun k => by
  show (if k < n then f.c k else 0) = f.c k
  by_cases h1 : k < n
  · rw [if_pos h1]
  · rw [if_neg h1, h k (by omega)]
theorem lowS_top {l : List Int} (hl : l ≠ []) (n : Nat) (f : Ser Int) : (P l * lowS (n + 1) f).c (n + (l.length - 1)) = l.getLast hl * f.c n := by
  have l0 : 0 < l.length := List.length_pos_iff.mpr hl
  rw [show n + (l.length - 1) = (l.length - 1) + n by omega, mul_c, topc (j := n) (fun m hm => ?_) (l.length - 1) (P l).c (fun m hm => P_dg l m (by omega)), P_last hl]
  · show _ * (if n < n + 1 then f.c n else 0) = _
    rw [if_pos (by omega)]
  · show (if m < n + 1 then f.c m else 0) = 0
    rw [if_neg (by omega)]
end MS

namespace DL
/-! rational numbers as pairs -/
def encR (r : Rat) : D := .tup [.int r.num, .int r.den]
theorem ratio_num {a b : Int} (hb : b ≠ 0) : a.fdiv (if b < 0 then -((Nat.gcd a.natAbs b.natAbs : Nat) : Int) else ((Nat.gcd a.natAbs b.natAbs : Nat) : Int)) = (Rat.divInt a b).num := by
  rw [Rat.num_divInt]
  have hg : 0 < Nat.gcd a.natAbs b.natAbs := Nat.gcd_pos_of_pos_right _ (by omega)
  have e : b.gcd a = Nat.gcd a.natAbs b.natAbs := by rw [Nat.gcd_comm]; rfl
  rw [e]
  obtain ⟨q, hq⟩ : ((Nat.gcd a.natAbs b.natAbs : Nat) : Int) ∣ a := Int.ofNat_dvd_left.mpr (Nat.gcd_dvd_left _ _)
  generalize Nat.gcd a.natAbs b.natAbs = g at *
  have hg' : (g : Int) ≠ 0 := by omega
  subst hq
  split
  · rename_i h
    rw [Int.sign_eq_neg_one_of_neg h]
    rw [show (g : Int) * q = (-(g : Int)) * (-q) by grind, Int.mul_fdiv_cancel_left _ (by omega)]
    rw [show (-1 : Int) * (-(g : Int) * -q) = g * (-q) by grind, Int.mul_ediv_cancel_left _ hg']
  · rename_i h
    rw [Int.sign_eq_one_of_pos (by omega), Int.mul_fdiv_cancel_left _ hg', Int.one_mul, Int.mul_ediv_cancel_left _ hg']
theorem ratio_den {a b : Int} (hb : b ≠ 0) : b.fdiv (if b < 0 then -((Nat.gcd a.natAbs b.natAbs : Nat) : Int) else ((Nat.gcd a.natAbs b.natAbs : Nat) : Int)) = ((Rat.divInt a b).den : Int) := by
  rw [Rat.den_divInt, if_neg hb]
  have hg : 0 < Nat.gcd a.natAbs b.natAbs := Nat.gcd_pos_of_pos_right _ (by omega)
  have e : b.gcd a = Nat.gcd a.natAbs b.natAbs := by rw [Nat.gcd_comm]; rfl
  rw [e]
  obtain ⟨q, hq⟩ : Nat.gcd a.natAbs b.natAbs ∣ b.natAbs := Nat.gcd_dvd_right _ _
  generalize Nat.gcd a.natAbs b.natAbs = g at *
  rw [hq, Nat.mul_div_cancel_left _ hg]
  have hg' : (g : Int) ≠ 0 := by omega
  split
  · rename_i h
    have hb' : b = -(g : Int) * q := by
      have : (b.natAbs : Int) = -b := by omega
      rw [hq] at this
      push_cast at this
      grind
    rw [hb', Int.mul_fdiv_cancel_left _ (by omega)]
  · rename_i h
    have hb' : b = (g : Int) * q := by
      have : (b.natAbs : Int) = b := by omega
      rw [hq] at this
      push_cast at this
      grind
    rw [hb', Int.mul_fdiv_cancel_left _ hg']
theorem rat_eq (x : Rat) : x = (x.num : Rat) / ((x.den : Int) : Rat) := by rw [← Rat.divInt_eq_div, Rat.num_divInt_den]
theorem den_ne (x : Rat) : (x.den : Int) ≠ 0 := by have := x.den_nz; omega
theorem den_neQ (x : Rat) : ((x.den : Int) : Rat) ≠ 0 := fun z => den_ne x (Rat.intCast_eq_zero_iff.mp z)
theorem r_plus (x y : Rat) : Rat.divInt (x.num * y.den + y.num * x.den) (x.den * y.den) = x + y := by
  rw [← Rat.divInt_add_divInt _ _ (den_ne x) (den_ne y), Rat.num_divInt_den, Rat.num_divInt_den]
theorem r_times (x y : Rat) : Rat.divInt (x.num * y.num) (x.den * y.den) = x * y := by
  rw [← Rat.divInt_mul_divInt, Rat.num_divInt_den, Rat.num_divInt_den]
theorem r_minus (x y : Rat) : Rat.divInt (x.num * y.den - y.num * x.den) (x.den * y.den) = x - y := by
  have hx := rat_eq x
  have hy := rat_eq y
  have dx := den_neQ x
  have dy := den_neQ y
  rw [Rat.divInt_eq_div, Rat.intCast_sub, Rat.intCast_mul, Rat.intCast_mul, Rat.intCast_mul]
  generalize (x.num : Rat) = p at *
  generalize (y.num : Rat) = q at *
  generalize ((x.den : Int) : Rat) = d at *
  generalize ((y.den : Int) : Rat) = e at *
  subst hx hy
  grind
theorem r_over (x y : Rat) (h : y ≠ 0) : Rat.divInt (x.num * y.den) (x.den * y.num) = x / y := by
  have hx := rat_eq x
  have hy := rat_eq y
  have dx := den_neQ x
  have dy := den_neQ y
  rw [Rat.divInt_eq_div, Rat.intCast_mul, Rat.intCast_mul]
  generalize (x.num : Rat) = p at *
  generalize (y.num : Rat) = q at *
  generalize ((x.den : Int) : Rat) = d at *
  generalize ((y.den : Int) : Rat) = e at *
  subst hx hy
  grind
theorem num_ne {y : Rat} (h : y ≠ 0) : y.num ≠ 0 := fun z => h (Rat.num_eq_zero.mp z)
/-- a fraction of at most n bits above and below -/
def Rz (n : Nat) (r : Rat) : Prop := Sm n r.num ∧ Sm n r.den
theorem Rz.mono {n m : Nat} {r : Rat} (h : Rz n r) (hm : n ≤ m) : Rz m r := ⟨h.1.mono hm, h.2.mono hm⟩
end DL

namespace W
open PySem PySem.Spec L2 DL
/-! ### the text -/
def topS (i : Nat) : Stmt := PySem.Challenge.pw_coilnets_k92_whole_echoes_of_layers.main.body.getD i (.Pass ⟨0, 0, 0, 0⟩)
/-! ### built-ins, constants -/
theorem b_len : bootBuiltins "len" = some (.builtin "len") := by decide +kernel
theorem b_tuple : bootBuiltins "tuple" = some (.type "tuple") := by decide +kernel
theorem b_max : bootBuiltins "max" = some (.builtin "max") := by decide +kernel
theorem b_abs : bootBuiltins "abs" = some (.builtin "abs") := by decide +kernel
theorem b_list : bootBuiltins "list" = some (.type "list") := by decide +kernel
theorem b_isinstance : bootBuiltins "isinstance" = some (.builtin "isinstance") := by decide +kernel
theorem b_int : bootBuiltins "int" = some (.type "int") := by decide +kernel
theorem b_bool : bootBuiltins "bool" = some (.type "bool") := by decide +kernel
theorem b_all : bootBuiltins "all" = some (.builtin "all") := by decide +kernel
def d_ZERO : D := .tup [(.tup []), (.tup [(.int 1)])]
def d_MOST_SIZE : D := .int (10 ^ 60)
def d_MOST_STEPS : D := .int 12
def d_VARIABLE : D := .tup [(.tup [(.int 0), (.int 1)]), (.tup [(.int 1)])]
def d_ONE : D := .tup [(.tup [(.int 1)]), (.tup [(.int 1)])]
/-! ### the defs as functions on data -/
def g_constant_of : FS :=
  (sRet (fIf (bt (f2 (f2 (fV 0) (fC (.int 0)) gIx) (fC (.int 0)) gNe)) (fA1 (fCons (fA1 (fCons (f2 (fV 0) (fC (.int 0)) gIx) fNil) gTupD) (fCons (fA1 (fCons (f2 (fV 0) (fC (.int 1)) gIx) fNil) gTupD) fNil)) gTupD) (fC d_ZERO)))
def m_constant_of : Fn := fnOf 1 g_constant_of
def g_trimmed : FS :=
  (sSeq (sSet 1 (xVal (fA1 (fCons (fV 0) fNil) gLen)))
  (sSeq (sWhile (tAndF (bt (f2 (fV 1) (fC (.int 0)) gGt)) (bt (f2 (f2 (fV 0) (f2 (fV 1) (fC (.int 1)) gSub) gIx) (fC (.int 0)) gEq))) (sAug 1 (fC (.int 1)) gSub) 100000)
  (sRet (fA1 (fCons (fCut (fV 0) oNone (oSome (fV 1))) fNil) gTupOf))))
def m_trimmed : Fn := fnOf 2 g_trimmed
def g_poly_plus : FS :=
  (sSeq (sSet 2 (xVal (fA1 (fCons (fA1 (fCons (fV 0) fNil) gLen) (fCons (fA1 (fCons (fV 1) fNil) gLen) fNil)) gMax2)))
  (sSeq (sPar [3, 4] (xsCons (xVal (fA1 (fStar (fV 0) (fStar (f2 (fA1 (fCons (fC (.int 0)) fNil) gLstD) (f2 (fV 2) (fA1 (fCons (fV 0) fNil) gLen) gSub) gMul) fNil)) gLstD)) (xsCons (xVal (fA1 (fStar (fV 1) (fStar (f2 (fA1 (fCons (fC (.int 0)) fNil) gLstD) (f2 (fV 2) (fA1 (fCons (fV 1) fNil) gLen) gSub) gMul) fNil)) gLstD)) xsNil)))
  (sRet (fCall 1 (fCons (fFr (ffLc (iZp (fCons (fV 3) (fCons (fV 4) fNil))) (hTup (hCons (hName 5) (hCons (hName 6) hNil))) tYesF (f2 (fV 5) (fV 6) gAdd) [5, 6])) fNil) m_trimmed))))
def m_poly_plus : Fn := fnOf 7 g_poly_plus
def g_poly_times : FS :=
  (sSeq (sIf (tOrF (bt (f2 (fV 0) (fA1 fNil gTupD) gEq)) (bt (f2 (fV 1) (fA1 fNil gTupD) gEq)))
  (sRet (fA1 fNil gTupD))
  sNx)
  (sSeq (sSet 2 (xOwn (ffRep (fA1 (fCons (fC (.int 0)) fNil) gLstD) (f2 (f2 (fA1 (fCons (fV 0) fNil) gLen) (fA1 (fCons (fV 1) fNil) gLen) gAdd) (fC (.int 1)) gSub))))
  (sSeq (sFor (iEn (fCons (fV 0) fNil)) (hTup (hCons (hName 3) (hCons (hName 4) hNil)))
  (sFor (iEn (fCons (fV 1) fNil)) (hTup (hCons (hName 5) (hCons (hName 6) hNil)))
  (sAugIx 2 (f2 (fV 3) (fV 5) gAdd) (f2 (fV 4) (fV 6) gMul) gAddI)))
  (sSeq (sFrz 2) (sRet (fCall 1 (fCons (fV 2) fNil) m_trimmed))))))
def m_poly_times : Fn := fnOf 7 g_poly_times
def g_content : FS :=
  (sSeq (sSet 1 (xVal (fC (.int 0))))
  (sSeq (sFor (iSeq (fV 0)) (hName 2)
  (sSet 1 (xVal (fA1 (fCons (fV 1) (fCons (fV 2) fNil)) gGcd))))
  (sRet (fV 1))))
def m_content : Fn := fnOf 3 g_content
def g_primitive : FS :=
  (sSeq (sIf (bt (f2 (fV 0) (fA1 fNil gTupD) gEq))
  (sRet (fA1 fNil gTupD))
  sNx)
  (sSeq (sSet 1 (xVal (fCall 1 (fCons (fV 0) fNil) m_content)))
  (sSeq (sIf (bt (f2 (f2 (fV 0) (f1 (fC (.int 1)) gNeg) gIx) (fC (.int 0)) gLt))
  (sSet 1 (xVal (f1 (fV 1) gNeg)))
  sNx)
  (sRet (fA1 (fCons (fFr (ffLc (iSeq (fV 0)) (hName 2) tYesF (f2 (fV 2) (fV 1) gFdiv) [2])) fNil) gTupOf)))))
def m_primitive : Fn := fnOf 3 g_primitive
def g_scaled : FS :=
  (sRet (fCall 1 (fCons (fFr (ffLc (iSeq (fV 0)) (hName 2) tYesF (f2 (fV 1) (fV 2) gMul) [2])) fNil) m_trimmed))
def m_scaled : Fn := fnOf 3 g_scaled
def g_poly_minus : FS :=
  (sRet (fCall 2 (fCons (fV 0) (fCons (fCall 2 (fCons (fV 1) (fCons (f1 (fC (.int 1)) gNeg) fNil)) m_scaled) fNil)) m_poly_plus))
def m_poly_minus : Fn := fnOf 2 g_poly_minus
def g_remainder : FS :=
  (sSeq (sPar [2, 3] (xsCons (xVal (fV 0)) (xsCons (xVal (f2 (fV 1) (f1 (fC (.int 1)) gNeg) gIx)) xsNil)))
  (sSeq (sWhile (bt (f2 (fA1 (fCons (fV 2) fNil) gLen) (fA1 (fCons (fV 1) fNil) gLen) gGe)) (sSeq (sSet 4 (xVal (f2 (fA1 (fCons (fV 2) fNil) gLen) (fA1 (fCons (fV 1) fNil) gLen) gSub)))
  (sSeq (sSet 5 (xVal (fCall 2 (fCons (fA1 (fStar (f2 (fA1 (fCons (fC (.int 0)) fNil) gLstD) (fV 4) gMul) (fStar (fV 1) fNil)) gTupD) (fCons (fIf (bt (f2 (fV 3) (fC (.int 0)) gGt)) (f2 (fV 2) (f1 (fC (.int 1)) gNeg) gIx) (f1 (f2 (fV 2) (f1 (fC (.int 1)) gNeg) gIx) gNeg)) fNil)) m_scaled)))
  (sSet 2 (xVal (fCall 2 (fCons (fCall 2 (fCons (fV 2) (fCons (fA1 (fCons (fV 3) fNil) gAbs) fNil)) m_scaled) (fCons (fV 5) fNil)) m_poly_minus))))) 100000)
  (sSeq (sSet 6 (xVal (fCall 1 (fCons (fV 2) fNil) m_content)))
  (sRet (fIf (bt (f2 (fV 6) (fC (.int 1)) gGt)) (fA1 (fCons (fFr (ffLc (iSeq (fV 2)) (hName 7) tYesF (f2 (fV 7) (fV 6) gFdiv) [7])) fNil) gTupOf) (fV 2))))))
def m_remainder : Fn := fnOf 8 g_remainder
def g_common : FS :=
  (sSeq (sWhile (bt (f2 (fV 1) (fA1 fNil gTupD) gNe)) (sPar [0, 1] (xsCons (xVal (fV 1)) (xsCons (xVal (fCall 1 (fCons (fCall 2 (fCons (fV 0) (fCons (fV 1) fNil)) m_remainder) fNil) m_primitive)) xsNil))) 100000)
  (sRet (fCall 1 (fCons (fV 0) fNil) m_primitive)))
def m_common : Fn := fnOf 2 g_common
def g_quotient : FS :=
  (sSeq (sPar [2, 3] (xsCons (xOwn (ffOf (fCons (fV 0) fNil))) (xsCons (xOwn (ffRep (fA1 (fCons (fC (.int 0)) fNil) gLstD) (fA1 (fCons (fC (.int 0)) (fCons (f2 (f2 (fA1 (fCons (fV 0) fNil) gLen) (fA1 (fCons (fV 1) fNil) gLen) gSub) (fC (.int 1)) gAdd) fNil)) gMax2))) xsNil)))
  (sSeq (sFor (iRg3 (fCons (f2 (fA1 (fCons (fV 3) fNil) gLen) (fC (.int 1)) gSub) (fCons (f1 (fC (.int 1)) gNeg) (fCons (f1 (fC (.int 1)) gNeg) fNil)))) (hName 4)
  (sSeq (sSetIx 3 (f2 (f2 (fV 2) (f2 (f2 (fV 4) (fA1 (fCons (fV 1) fNil) gLen) gAdd) (fC (.int 1)) gSub) gIx) (f2 (fV 1) (f1 (fC (.int 1)) gNeg) gIx) gFdiv) (fV 4))
  (sFor (iEn (fCons (fV 1) fNil)) (hTup (hCons (hName 5) (hCons (hName 6) hNil)))
  (sAugIx 2 (f2 (fV 4) (fV 5) gAdd) (f2 (f2 (fV 3) (fV 4) gIx) (fV 6) gMul) gSub))))
  (sSeq (sFrz 3) (sRet (fCall 1 (fCons (fV 3) fNil) m_trimmed)))))
def m_quotient : Fn := fnOf 7 g_quotient
def g_made : FS :=
  (sSeq (sIf (bt (f2 (fV 0) (fA1 fNil gTupD) gEq))
  (sRet (fC d_ZERO))
  sNx)
  (sSeq (sSet 2 (xVal (fCall 2 (fCons (fV 0) (fCons (fV 1) fNil)) m_common)))
  (sSeq (sPar [0, 1] (xsCons (xVal (fCall 2 (fCons (fV 0) (fCons (fV 2) fNil)) m_quotient)) (xsCons (xVal (fCall 2 (fCons (fV 1) (fCons (fV 2) fNil)) m_quotient)) xsNil)))
  (sSeq (sSet 3 (xVal (fA1 (fCons (fCall 1 (fCons (fV 0) fNil) m_content) (fCons (fCall 1 (fCons (fV 1) fNil) m_content) fNil)) gGcd)))
  (sSeq (sIf (bt (f2 (f2 (fV 1) (f1 (fC (.int 1)) gNeg) gIx) (fC (.int 0)) gLt))
  (sSet 3 (xVal (f1 (fV 3) gNeg)))
  sNx)
  (sRet (fA1 (fCons (fA1 (fCons (fFr (ffLc (iSeq (fV 0)) (hName 4) tYesF (f2 (fV 4) (fV 3) gFdiv) [4])) fNil) gTupOf) (fCons (fA1 (fCons (fFr (ffLc (iSeq (fV 1)) (hName 4) tYesF (f2 (fV 4) (fV 3) gFdiv) [4])) fNil) gTupOf) fNil)) gTupD)))))))
def m_made : Fn := fnOf 5 g_made
def g_plus_of : FS :=
  (sSeq (sSet 2 (xVal (fCall 2 (fCons (fCall 2 (fCons (f2 (fV 0) (fC (.int 0)) gIx) (fCons (f2 (fV 1) (fC (.int 1)) gIx) fNil)) m_poly_times) (fCons (fCall 2 (fCons (f2 (fV 1) (fC (.int 0)) gIx) (fCons (f2 (fV 0) (fC (.int 1)) gIx) fNil)) m_poly_times) fNil)) m_poly_plus)))
  (sRet (fCall 2 (fCons (fV 2) (fCons (fCall 2 (fCons (f2 (fV 0) (fC (.int 1)) gIx) (fCons (f2 (fV 1) (fC (.int 1)) gIx) fNil)) m_poly_times) fNil)) m_made)))
def m_plus_of : Fn := fnOf 3 g_plus_of
def g_times_of : FS :=
  (sRet (fCall 2 (fCons (fCall 2 (fCons (f2 (fV 0) (fC (.int 0)) gIx) (fCons (f2 (fV 1) (fC (.int 0)) gIx) fNil)) m_poly_times) (fCons (fCall 2 (fCons (f2 (fV 0) (fC (.int 1)) gIx) (fCons (f2 (fV 1) (fC (.int 1)) gIx) fNil)) m_poly_times) fNil)) m_made))
def m_times_of : Fn := fnOf 2 g_times_of
def g_back_of : FS :=
  (sRet (fCall 2 (fCons (f2 (fV 0) (fC (.int 1)) gIx) (fCons (f2 (fV 0) (fC (.int 0)) gIx) fNil)) m_made))
def m_back_of : Fn := fnOf 1 g_back_of
def g_over_of : FS :=
  (sRet (fCall 2 (fCons (fV 0) (fCons (fCall 1 (fCons (fV 1) fNil) m_back_of) fNil)) m_times_of))
def m_over_of : Fn := fnOf 2 g_over_of
def g_is_int : FS :=
  (sRet (fAnd (fA1 (fCons (fV 0) (fCons (fC (.ty "int")) fNil)) gIsI) (f1 (fA1 (fCons (fV 0) (fCons (fC (.ty "bool")) fNil)) gIsI) gNot)))
def m_is_int : Fn := fnOf 1 g_is_int
def g_is_ratio : FS :=
  (sSeq (sIf (tOrF (tNotF (bt (fA1 (fCons (fV 0) (fCons (fC (.ty "tuple")) fNil)) gIsI))) (tOrF (bt (f2 (fA1 (fCons (fV 0) fNil) gLen) (fC (.int 2)) gNe)) (tOrF (tNotF (bt (fCall 1 (fCons (f2 (fV 0) (fC (.int 0)) gIx) fNil) m_is_int))) (tNotF (bt (fCall 1 (fCons (f2 (fV 0) (fC (.int 1)) gIx) fNil) m_is_int))))))
  (sRet (fC (.bl false)))
  sNx)
  (sSeq (sIf (tOrF (bt (f2 (f2 (fV 0) (fC (.int 1)) gIx) (fC (.int 1)) gLt)) (tOrF (bt (f2 (fA1 (fCons (f2 (fV 0) (fC (.int 0)) gIx) fNil) gAbs) (fC d_MOST_SIZE) gGt)) (bt (f2 (f2 (fV 0) (fC (.int 1)) gIx) (fC d_MOST_SIZE) gGt))))
  (sRet (fC (.bl false)))
  sNx)
  (sRet (f2 (fA1 (fCons (f2 (fV 0) (fC (.int 0)) gIx) (fCons (f2 (fV 0) (fC (.int 1)) gIx) fNil)) gGcd) (fC (.int 1)) gEq))))
def m_is_ratio : Fn := fnOf 1 g_is_ratio
def g_need_steps : FS :=
  (sSeq (sIf (tOrF (tNotF (bt (fA1 (fCons (fV 0) (fCons (fC (.ty "tuple")) fNil)) gIsI))) (tNotF (bt (f3 (fC (.int 1)) (fA1 (fCons (fV 0) fNil) gLen) (fC d_MOST_STEPS) gLe gLe))))
  sNo
  sNx)
  (sFor (iEn (fCons (fV 0) fNil)) (hTup (hCons (hName 1) (hCons (hName 2) hNil)))
  (sIf (tNotF (bt (fCall 1 (fCons (fV 2) fNil) m_is_ratio)))
  sNo
  sNx)))
def m_need_steps : Fn := fnOf 3 g_need_steps
def g_layer_echo : FS :=
  (sSeq (sExpr (fCall 1 (fCons (fV 0) fNil) m_need_steps))
  (sSeq (sSet 1 (xVal (fCall 1 (fCons (f2 (fV 0) (f1 (fC (.int 1)) gNeg) gIx) fNil) m_constant_of)))
  (sSeq (sFor (iSeq (fStep (fCut (fV 0) oNone (oSome (f1 (fC (.int 1)) gNeg))) oNone oNone (f1 (fC (.int 1)) gNeg))) (hName 2)
  (sSeq (sPar [3, 4] (xsCons (xVal (fCall 1 (fCons (fV 2) fNil) m_constant_of)) (xsCons (xVal (fCall 2 (fCons (fC d_VARIABLE) (fCons (fV 1) fNil)) m_times_of)) xsNil)))
  (sSeq (sSet 5 (xVal (fCall 2 (fCons (fC d_ONE) (fCons (fCall 2 (fCons (fV 3) (fCons (fV 4) fNil)) m_times_of) fNil)) m_plus_of)))
  (sSeq (sIf (bt (f2 (fV 5) (fC d_ZERO) gEq))
  sNo
  sNx)
  (sSet 1 (xVal (fCall 2 (fCons (fCall 2 (fCons (fV 3) (fCons (fV 4) fNil)) m_plus_of) (fCons (fV 5) fNil)) m_over_of)))))))
  (sRet (fV 1)))))
def m_layer_echo : Fn := fnOf 6 g_layer_echo
def g_is_in : FS :=
  (sRet (fAnd (fCall 1 (fCons (fV 0) fNil) m_is_int) (f3 (fV 1) (fV 0) (fV 2) gLe gLe)))
def m_is_in : Fn := fnOf 3 g_is_in
def g_is_below : FS :=
  (sRet (f2 (fA1 (fCons (f2 (fV 0) (fC (.int 0)) gIx) fNil) gAbs) (f2 (fV 0) (fC (.int 1)) gIx) gLt))
def m_is_below : Fn := fnOf 1 g_is_below
def g_ratio : FS :=
  (sSeq (sSet 2 (xVal (fA1 (fCons (fV 0) (fCons (fV 1) fNil)) gGcd)))
  (sSeq (sIf (bt (f2 (fV 1) (fC (.int 0)) gLt))
  (sSet 2 (xVal (f1 (fV 2) gNeg)))
  sNx)
  (sRet (fA1 (fCons (f2 (fV 0) (fV 2) gFdiv) (fCons (f2 (fV 1) (fV 2) gFdiv) fNil)) gTupD))))
def m_ratio : Fn := fnOf 3 g_ratio
def g_plus : FS :=
  (sRet (fCall 2 (fCons (f2 (f2 (f2 (fV 0) (fC (.int 0)) gIx) (f2 (fV 1) (fC (.int 1)) gIx) gMul) (f2 (f2 (fV 1) (fC (.int 0)) gIx) (f2 (fV 0) (fC (.int 1)) gIx) gMul) gAdd) (fCons (f2 (f2 (fV 0) (fC (.int 1)) gIx) (f2 (fV 1) (fC (.int 1)) gIx) gMul) fNil)) m_ratio))
def m_plus : Fn := fnOf 2 g_plus
def g_minus : FS :=
  (sRet (fCall 2 (fCons (f2 (f2 (f2 (fV 0) (fC (.int 0)) gIx) (f2 (fV 1) (fC (.int 1)) gIx) gMul) (f2 (f2 (fV 1) (fC (.int 0)) gIx) (f2 (fV 0) (fC (.int 1)) gIx) gMul) gSub) (fCons (f2 (f2 (fV 0) (fC (.int 1)) gIx) (f2 (fV 1) (fC (.int 1)) gIx) gMul) fNil)) m_ratio))
def m_minus : Fn := fnOf 2 g_minus
def g_times : FS :=
  (sRet (fCall 2 (fCons (f2 (f2 (fV 0) (fC (.int 0)) gIx) (f2 (fV 1) (fC (.int 0)) gIx) gMul) (fCons (f2 (f2 (fV 0) (fC (.int 1)) gIx) (f2 (fV 1) (fC (.int 1)) gIx) gMul) fNil)) m_ratio))
def m_times : Fn := fnOf 2 g_times
def g_before_step : FS :=
  (sSeq (sSet 2 (xVal (fA1 (fCons (fA1 (fCons (fC (.int 0)) (fCons (fC (.int 1)) fNil)) gTupD) (fStar (fCut (fV 1) oNone (oSome (f1 (fC (.int 1)) gNeg))) fNil)) gLstD)))
  (sSeq (sSet 3 (xOwn (ffLst fNil)))
  (sSeq (sFor (iRg1 (fCons (fA1 (fCons (fV 1) fNil) gLen) fNil)) (hName 4)
  (sSeq (sSet 5 (xVal (fIf (bt (f2 (fV 4) (fC (.int 0)) gEq)) (fCall 2 (fCons (f2 (fV 2) (fV 4) gIx) (fCons (fV 0) fNil)) m_plus) (f2 (fV 2) (fV 4) gIx))))
  (sSeq (sFor (iRg2 (fCons (fC (.int 1)) (fCons (f2 (fV 4) (fC (.int 1)) gAdd) fNil))) (hName 6)
  (sSet 5 (xVal (fCall 2 (fCons (fV 5) (fCons (fCall 2 (fCons (fCall 2 (fCons (fV 0) (fCons (f2 (fV 2) (fV 6) gIx) fNil)) m_times) (fCons (f2 (fV 3) (f2 (fV 4) (fV 6) gSub) gIx) fNil)) m_times) fNil)) m_minus))))
  (sApp 3 (fV 5)))))
  (sRet (fV 3)))))
def m_before_step : Fn := fnOf 7 g_before_step
def g_echo_series : FS :=
  (sSeq (sExpr (fCall 1 (fCons (fV 0) fNil) m_need_steps))
  (sSeq (sIf (tNotF (bt (fCall 3 (fCons (fV 1) (fCons (fC (.int 1)) (fCons (fC d_MOST_STEPS) fNil))) m_is_in)))
  sNo
  sNx)
  (sSeq (sIf (tNotF (bt (fA1 (fCons (fFr (ffLc (iSeq (fCut (fV 0) oNone (oSome (f1 (fC (.int 1)) gNeg)))) (hName 3) tYesF (fCall 1 (fCons (fV 3) fNil) m_is_below) [3])) fNil) gAll)))
  sNo
  sNx)
  (sSeq (sSet 2 (xVal (fA1 (fCons (f2 (fV 0) (f1 (fC (.int 1)) gNeg) gIx) (fStar (f2 (fA1 (fCons (fA1 (fCons (fC (.int 0)) (fCons (fC (.int 1)) fNil)) gTupD) fNil) gLstD) (f2 (fV 1) (fC (.int 1)) gSub) gMul) fNil)) gLstD)))
  (sSeq (sFor (iSeq (fStep (fCut (fV 0) oNone (oSome (f1 (fC (.int 1)) gNeg))) oNone oNone (f1 (fC (.int 1)) gNeg))) (hName 3)
  (sSet 2 (xVal (fCall 2 (fCons (fV 3) (fCons (fV 2) fNil)) m_before_step))))
  (sRet (fA1 (fCons (fV 2) fNil) gTupOf)))))))
def m_echo_series : Fn := fnOf 4 g_echo_series
def g_over : FS :=
  (sRet (fCall 2 (fCons (f2 (f2 (fV 0) (fC (.int 0)) gIx) (f2 (fV 1) (fC (.int 1)) gIx) gMul) (fCons (f2 (f2 (fV 0) (fC (.int 1)) gIx) (f2 (fV 1) (fC (.int 0)) gIx) gMul) fNil)) m_ratio))
def m_over : Fn := fnOf 2 g_over
def g_behind_step : FS :=
  (sSeq (sPar [1, 2] (xsCons (xVal (f2 (fV 0) (fC (.int 0)) gIx)) (xsCons (xOwn (ffLst fNil)) xsNil)))
  (sSeq (sSet 3 (xVal (fCall 2 (fCons (fA1 (fCons (fC (.int 1)) (fCons (fC (.int 1)) fNil)) gTupD) (fCons (fCall 2 (fCons (fV 1) (fCons (fV 1) fNil)) m_times) fNil)) m_minus)))
  (sSeq (sFor (iRg2 (fCons (fC (.int 1)) (fCons (fA1 (fCons (fV 0) fNil) gLen) fNil))) (hName 4)
  (sSeq (sSet 5 (xVal (f2 (fV 0) (fV 4) gIx)))
  (sSeq (sFor (iRg2 (fCons (fC (.int 1)) (fCons (fV 4) fNil))) (hName 6)
  (sSet 5 (xVal (fCall 2 (fCons (fV 5) (fCons (fCall 2 (fCons (fCall 2 (fCons (fV 1) (fCons (f2 (fV 0) (fV 6) gIx) fNil)) m_times) (fCons (f2 (fV 2) (f2 (f2 (fV 4) (fV 6) gSub) (fC (.int 1)) gSub) gIx) fNil)) m_times) fNil)) m_plus))))
  (sApp 2 (fCall 2 (fCons (fV 5) (fCons (fV 3) fNil)) m_over)))))
  (sRet (fV 2)))))
def m_behind_step : Fn := fnOf 7 g_behind_step
def g_steps_of : FS :=
  (sSeq (sExpr (fCall 1 (fCons (fV 0) fNil) m_need_steps))
  (sSeq (sPar [1, 2] (xsCons (xOwn (ffLst fNil)) (xsCons (xVal (fA1 (fCons (fV 0) fNil) gLstOf)) xsNil)))
  (sSeq (sWhile (bt (f2 (fA1 (fCons (fV 2) fNil) gLen) (fC (.int 1)) gGt)) (sSeq (sIf (tNotF (bt (fCall 1 (fCons (f2 (fV 2) (fC (.int 0)) gIx) fNil) m_is_below)))
  (sRet (fC .non))
  sNx)
  (sSeq (sApp 1 (f2 (fV 2) (fC (.int 0)) gIx))
  (sSet 2 (xVal (fCall 1 (fCons (fV 2) fNil) m_behind_step))))) 100000)
  (sRet (fA1 (fStar (fV 1) (fCons (f2 (fV 2) (fC (.int 0)) gIx) fNil)) gTupD)))))
def m_steps_of : Fn := fnOf 3 g_steps_of
def g_law_taken : FS :=
  (sSeq (sIf (bt (f2 (fRow 0 3) (fC (.int 0)) gGt))
  (sSeq (sSet 2 (xVal (f2 (fA1 (fCons (fRow 0 3) fNil) gInt) (fV 1) gMod)))
  (sSeq (sRow 0 3 (f2 (fRow 0 3) (fV 1) gFdiv))
  (sRet (fV 2))))
  sNx)
  (sSeq (sRow 0 1 (f2 (fRow 0 1) (fC (.int 1)) gAdd))
  (sSeq (sIf (bt (f2 (fRow 0 1) (fRowLen 0) gGt))
  (sSeq (sRow 0 2 (f2 (fA1 (fCons (f2 (f2 (fRow 0 2) (fC (.int 48271)) gMul) (fC (.int 11)) gAdd) fNil) gInt) (fC (.int 2147483647)) gMod))
  (sRet (f2 (fA1 (fCons (f2 (fRow 0 2) (fC (.int 7)) gFdiv) fNil) gInt) (fV 1) gMod)))
  sNx)
  (sSeq (sSet 3 (xVal (fRowAt 0 (f2 (fRow 0 1) (fC (.int 1)) gSub))))
  (sSeq (sRow 0 2 (f2 (fA1 (fCons (f2 (f2 (f2 (fRow 0 2) (fC (.int 48271)) gMul) (fV 3) gAdd) (fC (.int 11)) gAdd) fNil) gInt) (fC (.int 2147483647)) gMod))
  (sSeq (sIf (bt (f2 (fV 3) (f2 (fC (.int 10)) (fC (.int 18)) gPow) gGe))
  (sRow 0 3 (f2 (fV 3) (fV 1) gFdiv))
  sNx)
  (sRet (f2 (fA1 (fCons (fV 3) fNil) gInt) (fV 1) gMod))))))))
def m_law_taken : Fn := fnOf 4 g_law_taken
def g_law_shared : FS :=
  (sSeq (sPar [0, 1] (xsCons (xVal (fA1 (fCons (fV 0) fNil) gAbs)) (xsCons (xVal (fA1 (fCons (fV 1) fNil) gAbs)) xsNil)))
  (sSeq (sFor (iRg1 (fCons (fC (.int 2000)) fNil)) (hName 2)
  (sSeq (sIf (bt (f2 (fV 1) (fC (.int 0)) gEq))
  sBrk
  sNx)
  (sPar [0, 1] (xsCons (xVal (fV 1)) (xsCons (xVal (f2 (fA1 (fCons (fV 0) fNil) gInt) (fV 1) gMod)) xsNil)))))
  (sRet (fV 0))))
def m_law_shared : Fn := fnOf 3 g_law_shared
def g_law_ratio : FS :=
  (sSeq (sSet 2 (xVal (fCall 2 (fCons (fV 0) (fCons (fV 1) fNil)) m_law_shared)))
  (sSeq (sIf (bt (f2 (fV 1) (fC (.int 0)) gLt))
  (sSet 2 (xVal (f1 (fV 2) gNeg)))
  sNx)
  (sRet (fA1 (fCons (f2 (fV 0) (fV 2) gFdiv) (fCons (f2 (fV 1) (fV 2) gFdiv) fNil)) gTupD))))
def m_law_ratio : Fn := fnOf 3 g_law_ratio
def g_law_plus_ratio : FS :=
  (sRet (fCall 2 (fCons (f2 (f2 (f2 (fV 0) (fC (.int 0)) gIx) (f2 (fV 1) (fC (.int 1)) gIx) gMul) (f2 (f2 (fV 1) (fC (.int 0)) gIx) (f2 (fV 0) (fC (.int 1)) gIx) gMul) gAdd) (fCons (f2 (f2 (fV 0) (fC (.int 1)) gIx) (f2 (fV 1) (fC (.int 1)) gIx) gMul) fNil)) m_law_ratio))
def m_law_plus_ratio : Fn := fnOf 2 g_law_plus_ratio
def g_law_times_ratio : FS :=
  (sRet (fCall 2 (fCons (f2 (f2 (fV 0) (fC (.int 0)) gIx) (f2 (fV 1) (fC (.int 0)) gIx) gMul) (fCons (f2 (f2 (fV 0) (fC (.int 1)) gIx) (f2 (fV 1) (fC (.int 1)) gIx) gMul) fNil)) m_law_ratio))
def m_law_times_ratio : Fn := fnOf 2 g_law_times_ratio
def g_law_less_ratio : FS :=
  (sRet (f2 (f2 (f2 (fV 0) (fC (.int 0)) gIx) (f2 (fV 1) (fC (.int 1)) gIx) gMul) (f2 (f2 (fV 1) (fC (.int 0)) gIx) (f2 (fV 0) (fC (.int 1)) gIx) gMul) gLt))
def m_law_less_ratio : Fn := fnOf 2 g_law_less_ratio
def g_law_steps : FS :=
  (sSeq (sSet 2 (xOwn (ffLst fNil)))
  (sSeq (sFor (iRg1 (fCons (f2 (fC (.int 1)) (fCall 2 (fCons (fV 0) (fCons (fV 1) fNil)) m_law_taken) gAdd) fNil)) (hName 3)
  (sSeq (sSet 4 (xVal (f2 (fC (.int 2)) (fCall 2 (fCons (fV 0) (fCons (fC (.int 5)) fNil)) m_law_taken) gAdd)))
  (sApp 2 (fCall 2 (fCons (f2 (f2 (fCall 2 (fCons (fV 0) (fCons (f2 (f2 (fC (.int 2)) (fV 4) gMul) (fC (.int 1)) gSub) fNil)) m_law_taken) (fV 4) gSub) (fC (.int 1)) gAdd) (fCons (fV 4) fNil)) m_law_ratio))))
  (sRet (fA1 (fCons (fV 2) fNil) gTupOf))))
def m_law_steps : Fn := fnOf 5 g_law_steps
def g_law : FS :=
  (sSeq (sPar [2, 3] (xsCons (xVal (fCall 2 (fCons (fV 1) (fCons (fC (.int 6)) fNil)) m_law_steps)) (xsCons (xVal (f2 (fC (.int 1)) (fCall 2 (fCons (fV 1) (fCons (fC (.int 9)) fNil)) m_law_taken) gAdd)) xsNil)))
  (sSeq (sPar [4, 5] (xsCons (xVal (fCall 2 (fCons (fV 2) (fCons (fV 3) fNil)) m_echo_series)) (xsCons (xVal (fCall 1 (fCons (fV 2) fNil) m_layer_echo)) xsNil)))
  (sSeq (sIf (tOrF (tNotF (bt (fA1 (fCons (fV 4) (fCons (fC (.ty "tuple")) fNil)) gIsI))) (tOrF (bt (f2 (fA1 (fCons (fV 4) fNil) gLen) (fV 3) gNe)) (bt (f2 (fA1 (fCons (f2 (fV 5) (fC (.int 1)) gIx) fNil) gLen) (fA1 (fCons (fV 2) fNil) gLen) gGt))))
  (sRet (fC (.bl false)))
  sNx)
  (sSeq (sFor (iRg1 (fCons (fV 3) fNil)) (hName 6)
  (sSeq (sSet 7 (xVal (fA1 (fCons (fC (.int 0)) (fCons (fC (.int 1)) fNil)) gTupD)))
  (sSeq (sFor (iRg1 (fCons (f2 (fV 6) (fC (.int 1)) gAdd) fNil)) (hName 8)
  (sIf (bt (f2 (f2 (fV 6) (fV 8) gSub) (fA1 (fCons (f2 (fV 5) (fC (.int 1)) gIx) fNil) gLen) gLt))
  (sSet 7 (xVal (fCall 2 (fCons (fV 7) (fCons (fCall 2 (fCons (f2 (fV 4) (fV 8) gIx) (fCons (fA1 (fCons (f2 (f2 (fV 5) (fC (.int 1)) gIx) (f2 (fV 6) (fV 8) gSub) gIx) (fCons (fC (.int 1)) fNil)) gTupD) fNil)) m_law_times_ratio) fNil)) m_law_plus_ratio)))
  sNx))
  (sIf (bt (f2 (fV 7) (fIf (bt (f2 (fV 6) (fA1 (fCons (f2 (fV 5) (fC (.int 0)) gIx) fNil) gLen) gLt)) (fA1 (fCons (f2 (f2 (fV 5) (fC (.int 0)) gIx) (fV 6) gIx) (fCons (fC (.int 1)) fNil)) gTupD) (fA1 (fCons (fC (.int 0)) (fCons (fC (.int 1)) fNil)) gTupD)) gNe))
  (sRet (fC (.bl false)))
  sNx))))
  (sSeq (sSet 9 (xVal (fCall 2 (fCons (fV 2) (fCons (fA1 (fCons (fV 2) fNil) gLen) fNil)) m_echo_series)))
  (sSeq (sIf (tOrF (bt (f2 (fCall 1 (fCons (fV 9) fNil) m_steps_of) (fV 2) gNe)) (bt (f2 (fCut (fCall 2 (fCons (fV 2) (fCons (fC (.int 12)) fNil)) m_echo_series) oNone (oSome (fV 3))) (fCut (fV 4) oNone (oSome (fC (.int 12)))) gNe)))
  (sRet (fC (.bl false)))
  sNx)
  (sSeq (sSet 10 (xVal (fA1 (fCons (fC (.int 0)) (fCons (fC (.int 1)) fNil)) gTupD)))
  (sSeq (sFor (iSeq (fV 4)) (hName 11)
  (sSet 10 (xVal (fCall 2 (fCons (fV 10) (fCons (fCall 2 (fCons (fV 11) (fCons (fV 11) fNil)) m_law_times_ratio) fNil)) m_law_plus_ratio))))
  (sRet (f1 (fCall 2 (fCons (fA1 (fCons (fC (.int 1)) (fCons (fC (.int 1)) fNil)) gTupD) (fCons (fV 10) fNil)) m_law_less_ratio) gNot))))))))))
end W

namespace W
open DL
theorem e_ratio {a b : Int} (hb : b ≠ 0) (s : RS) : m_ratio [.int a, .int b] s = some (encR (Rat.divInt a b), s) := by
  have h1 := ratio_num (a := a) hb
  have h2 := ratio_den (a := a) hb
  have hg : 0 < Nat.gcd a.natAbs b.natAbs := Nat.gcd_pos_of_pos_right _ (by omega)
  unfold m_ratio g_ratio encR
  rw [ev_fn]
  by_cases h : b < 0
  · rw [if_pos h] at h1 h2
    simp [h, h1, h2, hb]
  · rw [if_neg h] at h1 h2
    simp [h, h1, h2, hb]
section
variable {x y : Rat} {n : Nat}
theorem e_plus (hx : Rz n x) (hy : Rz n y) (hn : n ≤ 40000000) (s : RS) : m_plus [encR x, encR y] s = some (encR (x + y), s) := by
  have h := e_ratio (a := x.num * y.den + y.num * x.den) (b := x.den * y.den) (Int.mul_ne_zero (den_ne x) (den_ne y)) s
  rw [r_plus] at h
  have m1 := mul_ok hx.1 hy.2
  have m2 := mul_ok hy.1 hx.2
  have m3 := mul_ok hx.2 hy.2
  unfold m_plus g_plus
  rw [ev_fn]
  unfold encR at *
  simp [m1, m2, m3, h]
theorem e_minus (hx : Rz n x) (hy : Rz n y) (hn : n ≤ 40000000) (s : RS) : m_minus [encR x, encR y] s = some (encR (x - y), s) := by
  have h := e_ratio (a := x.num * y.den - y.num * x.den) (b := x.den * y.den) (Int.mul_ne_zero (den_ne x) (den_ne y)) s
  rw [r_minus] at h
  have m1 := mul_ok hx.1 hy.2
  have m2 := mul_ok hy.1 hx.2
  have m3 := mul_ok hx.2 hy.2
  unfold m_minus g_minus
  rw [ev_fn]
  unfold encR at *
  simp [m1, m2, m3, h]
theorem e_times (hx : Rz n x) (hy : Rz n y) (hn : n ≤ 40000000) (s : RS) : m_times [encR x, encR y] s = some (encR (x * y), s) := by
  have h := e_ratio (a := x.num * y.num) (b := x.den * y.den) (Int.mul_ne_zero (den_ne x) (den_ne y)) s
  rw [r_times] at h
  have m1 := mul_ok hx.1 hy.1
  have m3 := mul_ok hx.2 hy.2
  unfold m_times g_times
  rw [ev_fn]
  unfold encR at *
  simp [m1, m3, h]
theorem e_over (hx : Rz n x) (hy : Rz n y) (h0 : y ≠ 0) (hn : n ≤ 40000000) (s : RS) : m_over [encR x, encR y] s = some (encR (x / y), s) := by
  have h := e_ratio (a := x.num * y.den) (b := x.den * y.num) (Int.mul_ne_zero (den_ne x) (num_ne h0)) s
  rw [r_over _ _ h0] at h
  have m1 := mul_ok hx.1 hy.2
  have m3 := mul_ok hx.2 hy.1
  unfold m_over g_over
  rw [ev_fn]
  unfold encR at *
  simp [m1, m3, h]
theorem e_is_int (i : Int) (s : RS) : m_is_int [.int i] s = some (.bl true, s) := by
  unfold m_is_int g_is_int
  rw [ev_fn]
  simp
theorem e_is_ratio (h1 : x.num.natAbs ≤ 10 ^ 60) (h2 : x.den ≤ 10 ^ 60) (s : RS) : m_is_ratio [encR x] s = some (.bl true, s) := by
  have i1 := e_is_int x.num s
  have i2 := e_is_int x.den s
  have d1 : ¬ (x.den : Int) < 1 := by have := x.den_nz; omega
  have d2 : ¬ (1000000000000000000000000000000000000000000000000000000000000 : Int) < (x.num.natAbs : Int) := by omega
  have d3 : ¬ (1000000000000000000000000000000000000000000000000000000000000 : Int) < (x.den : Int) := by omega
  have d4 : Nat.gcd x.num.natAbs x.den = 1 := x.reduced
  unfold m_is_ratio g_is_ratio
  rw [ev_fn]
  unfold encR d_MOST_SIZE at *
  simp [i1, i2, d1, d2, d3, d4]
theorem e_is_below (s : RS) : m_is_below [encR x] s = some (.bl (decide ((x.num.natAbs : Int) < x.den)), s) := by
  unfold m_is_below g_is_below
  rw [ev_fn]
  unfold encR
  simp
theorem e_is_in (i a b : Int) (h : a ≤ i ∧ i ≤ b) (s : RS) : m_is_in [.int i, .int a, .int b] s = some (.bl true, s) := by
  have i1 := e_is_int i s
  unfold m_is_in g_is_in
  rw [ev_fn]
  simp [i1, h.1, h.2]
end
def encS (l : List Rat) : D := .tup (l.map encR)
def Ok60 (l : List Rat) : Prop := ∀ r ∈ l, r.num.natAbs ≤ 10 ^ 60 ∧ r.den ≤ 10 ^ 60
theorem need_loop {o : Sl} {s : RS} : ∀ (l : List Rat) (i : Nat) (e1 e2 : Sl), Ok60 l → notOwn (some e1) = true → notOwn (some e2) = true → ∃ e1' e2',
    sForGo (hTup (hCons (hName 1) (hCons (hName 2) hNil))) (sIf (tNotF (bt (fCall 1 (fCons (fV 2) fNil) m_is_ratio))) sNo sNx) (enD i (l.map encR)) [o, e1, e2] s = .nx [o, e1', e2'] s
  | [], i, e1, e2, _, _, _ => ⟨e1, e2, rfl⟩
  | r :: l, i, e1, e2, h, h1, h2 => by
    obtain ⟨e1', e2', g⟩ := need_loop (o := o) (s := s) l (i + 1) (.val (.int i)) (.val (encR r)) (fun x hx => h x (List.mem_cons_of_mem _ hx)) rfl rfl
    refine ⟨e1', e2', ?_⟩
    obtain ⟨k1, k2⟩ := h r List.mem_cons_self
    have k := e_is_ratio k1 k2 s
    rw [← g, List.map_cons, enD, ev_go]
    unfold encR at *
    simp [h1, h2, k]
theorem e_need_steps {l : List Rat} (h : Ok60 l) (h1 : 1 ≤ l.length) (h2 : l.length ≤ 12) (s : RS) : m_need_steps [encS l] s = some (.non, s) := by
  obtain ⟨e1, e2, g⟩ := need_loop (o := .val (encS l)) (s := s) l 0 .no .no h rfl rfl
  have c1 : (1 : Int) ≤ l.length := by omega
  have c2 : (l.length : Int) ≤ 12 := by omega
  unfold m_need_steps g_need_steps
  rw [ev_fn]
  unfold encS d_MOST_STEPS at *
  simp [c1, c2, g]
/-! the draws -/
structure Dr (s : RS) : Prop where
  i : 0 ≤ s.i
  a : 0 ≤ s.sd
  b : s.sd < 2147483647
theorem e_taken {s : RS} {m : Int} (h : Dr s) (hm : 0 < m) : ∃ v s', m_law_taken [.row, .int m] s = some (.int v, s') ∧ 0 ≤ v ∧ v < m ∧ Dr s' := by
  have m0 : m ≠ 0 := by omega
  have mpos : ∀ x : Int, 0 ≤ x.fmod m ∧ x.fmod m < m := fun x => ⟨Int.fmod_nonneg_of_pos x hm, Int.fmod_lt_of_pos x hm⟩
  have ppos : ∀ x : Int, 0 ≤ x.fmod 2147483647 ∧ x.fmod 2147483647 < 2147483647 := fun x => ⟨Int.fmod_nonneg_of_pos x (by decide), Int.fmod_lt_of_pos x (by decide)⟩
  obtain ⟨xs, i, sd, c⟩ := s
  obtain ⟨h1, h2, h3⟩ := h
  simp only at h1 h2 h3
  unfold m_law_taken g_law_taken
  rw [ev_fn]
  have q : mulOk sd 48271 = true := mul_ok (n := 31) (m := 16) (by unfold Sm; omega) (by unfold Sm; decide)
  by_cases hc : 0 < c
  · refine ⟨c.fmod m, ⟨xs, i, sd, c.fdiv m⟩, ?_, (mpos c).1, (mpos c).2, h1, h2, h3⟩
    simp [RS.at, RS.put, hc, m0]
  · by_cases hi : (xs.length : Int) < i + 1
    · refine ⟨((sd * 48271 + 11).fmod 2147483647 |>.fdiv 7).fmod m, ⟨xs, i + 1, (sd * 48271 + 11).fmod 2147483647, c⟩, ?_, (mpos _).1, (mpos _).2, by show 0 ≤ i + 1; omega, (ppos _).1, (ppos _).2⟩
      simp [RS.at, RS.put, hc, m0, hi, q]
    · obtain ⟨k, rfl⟩ : ∃ k : Nat, i = (k : Int) := ⟨i.toNat, by omega⟩
      have hk : k < xs.length := by omega
      have e1 : (k : Int) + 1 - 1 = k := by omega
      have e2 := at_natG (xs := xs) hk
      rw [List.getElem?_eq_getElem hk] at e2
      by_cases hx : (1000000000000000000 : Int) ≤ xs[k]
      · refine ⟨(xs[k]).fmod m, ⟨xs, k + 1, (sd * 48271 + xs[k] + 11).fmod 2147483647, (xs[k]).fdiv m⟩, ?_, (mpos _).1, (mpos _).2, by show 0 ≤ (k : Int) + 1; omega, (ppos _).1, (ppos _).2⟩
        simp [RS.at, RS.put, hc, m0, hi, q, e1, e2, hx, gPow_18]
      · refine ⟨(xs[k]).fmod m, ⟨xs, k + 1, (sd * 48271 + xs[k] + 11).fmod 2147483647, c⟩, ?_, (mpos _).1, (mpos _).2, by show 0 ≤ (k : Int) + 1; omega, (ppos _).1, (ppos _).2⟩
        simp [RS.at, RS.put, hc, m0, hi, q, e1, e2, hx, gPow_18]
theorem fmod_nat (a b : Nat) : (a : Int).fmod (b : Int) = ((a % b : Nat) : Int) := by
  rw [Int.fmod_eq_emod_of_nonneg _ (by omega)]
  rfl
theorem half {b r : Nat} (hr : 0 < r) (hrb : r < b) : 2 * (b % r) < b := by
  have h1 := Nat.mod_lt b hr
  have h2 := Nat.div_add_mod b r
  have h3 : 1 ≤ b / r := (Nat.one_le_div_iff hr).mpr (by omega)
  have h4 := Nat.mul_le_mul_left r h3
  omega
def eStep : FS := (sSeq (sIf (bt (f2 (fV 1) (fC (.int 0)) gEq))
  sBrk
  sNx)
  (sPar [0, 1] (xsCons (xVal (fV 1)) (xsCons (xVal (f2 (fA1 (fCons (fV 0) fNil) gInt) (fV 1) gMod)) xsNil))))
theorem e_brk {lo : Int} {t a : Nat} {e : Sl} {s : RS} (h : notOwn (some e) = true) : ∃ b e', sForGo (hName 2) eStep (rgD lo t) [.val (.int a), .val (.int 0), e] s = .nx [.val (.int a), b, e'] s := by
  cases t with
  | zero => exact ⟨_, _, rfl⟩
  | succ t =>
    refine ⟨.val (.int 0), .val (.int lo), ?_⟩
    rw [ev_rgD, ev_go]
    unfold eStep
    simp [h]
theorem e_euc {s : RS} {lo : Int} {t a b : Nat} {e : Sl} (h : notOwn (some e) = true) (hb : b ≠ 0) :
    sForGo (hName 2) eStep (rgD lo (t + 1)) [.val (.int a), .val (.int b), e] s = sForGo (hName 2) eStep (rgD (lo + 1) t) [.val (.int b), .val (.int (a % b : Nat)), .val (.int lo)] s := by
  have hb' : (b : Int) ≠ 0 := by omega
  rw [ev_rgD, ev_go]
  unfold eStep
  simp [h, hb, hb', fmod_nat, -Int.natCast_emod]
theorem sh_loop {s : RS} : ∀ (k t a b : Nat) (lo : Int) (e : Sl), notOwn (some e) = true → b < 2 ^ k → 2 * k ≤ t → ∃ b' e', sForGo (hName 2) eStep (rgD lo t) [.val (.int a), .val (.int b), e] s = .nx [.val (.int (Nat.gcd a b : Nat)), b', e'] s
  | 0, t, a, b, lo, e, he, hb, _ => by
    obtain rfl : b = 0 := by omega
    obtain ⟨b', e', h⟩ := e_brk (lo := lo) (t := t) (a := a) (s := s) he
    exact ⟨b', e', by rw [Nat.gcd_zero_right]; exact h⟩
  | k + 1, t, a, b, lo, e, he, hb, ht => by
    by_cases h0 : b = 0
    · subst h0
      obtain ⟨b', e', h⟩ := e_brk (lo := lo) (t := t) (a := a) (s := s) he
      exact ⟨b', e', by rw [Nat.gcd_zero_right]; exact h⟩
    · obtain ⟨u, rfl⟩ : ∃ u, t = u + 2 := ⟨t - 2, by omega⟩
      rw [show u + 2 = (u + 1) + 1 by rfl, e_euc he h0]
      have g1 : Nat.gcd a b = Nat.gcd b (a % b) := by rw [Nat.gcd_comm a b, Nat.gcd_rec b a, Nat.gcd_comm]
      by_cases h1 : a % b = 0
      · rw [h1]
        obtain ⟨b', e', h⟩ := e_brk (lo := lo + 1) (t := u + 1) (a := b) (s := s) (e := .val (.int lo)) rfl
        refine ⟨b', e', ?_⟩
        rw [g1, h1, Nat.gcd_zero_right]
        exact h
      · rw [e_euc rfl h1]
        have lt := Nat.mod_lt a (Nat.pos_of_ne_zero h0)
        have hh := half (Nat.pos_of_ne_zero h1) lt
        obtain ⟨b', e', h⟩ := sh_loop (s := s) k u (a % b) (b % (a % b)) (lo + 1 + 1) (.val (.int (lo + 1))) rfl (by rw [Nat.pow_succ] at hb; omega) (by omega)
        refine ⟨b', e', ?_⟩
        rw [h, g1, Nat.gcd_comm b, Nat.gcd_rec (a % b) b, Nat.gcd_comm]
theorem e_law_shared {a b : Int} (hb : Sm 1000 b) (s : RS) : m_law_shared [.int a, .int b] s = some (.int (Nat.gcd a.natAbs b.natAbs : Nat), s) := by
  obtain ⟨b', e', h⟩ := sh_loop (s := s) 1000 2000 a.natAbs b.natAbs 0 .no rfl hb (by decide)
  unfold eStep at h
  unfold m_law_shared g_law_shared
  rw [ev_fn]
  simp [h]
theorem e_law_ratio {a b : Int} (hb : b ≠ 0) (h : Sm 1000 b) (s : RS) : m_law_ratio [.int a, .int b] s = some (encR (Rat.divInt a b), s) := by
  have h1 := ratio_num (a := a) hb
  have h2 := ratio_den (a := a) hb
  have hg : 0 < Nat.gcd a.natAbs b.natAbs := Nat.gcd_pos_of_pos_right _ (by omega)
  have h3 := e_law_shared (a := a) h s
  unfold m_law_ratio g_law_ratio encR
  rw [ev_fn]
  by_cases h : b < 0
  · rw [if_pos h] at h1 h2
    simp [h, h1, h2, hb, h3]
  · rw [if_neg h] at h1 h2
    simp [h, h1, h2, hb, h3]
section
variable {x y : Rat} {n m : Nat}
theorem e_law_plus (hx : Rz n x) (hy : Rz n y) (hn : n ≤ 40000000) (dx : Sm 500 x.den) (dy : Sm 500 y.den) (s : RS) : m_law_plus_ratio [encR x, encR y] s = some (encR (x + y), s) := by
  have h := e_law_ratio (a := x.num * y.den + y.num * x.den) (b := x.den * y.den) (Int.mul_ne_zero (den_ne x) (den_ne y)) (Sm.mono (dx.mul dy) (by decide)) s
  rw [r_plus] at h
  have m1 := mul_ok hx.1 hy.2
  have m2 := mul_ok hy.1 hx.2
  have m3 := mul_ok hx.2 hy.2
  unfold m_law_plus_ratio g_law_plus_ratio
  rw [ev_fn]
  unfold encR at *
  simp [m1, m2, m3, h]
theorem e_law_times (hx : Rz n x) (hy : Rz n y) (hn : n ≤ 40000000) (dx : Sm 500 x.den) (dy : Sm 500 y.den) (s : RS) : m_law_times_ratio [encR x, encR y] s = some (encR (x * y), s) := by
  have h := e_law_ratio (a := x.num * y.num) (b := x.den * y.den) (Int.mul_ne_zero (den_ne x) (den_ne y)) (Sm.mono (dx.mul dy) (by decide)) s
  rw [r_times] at h
  have m1 := mul_ok hx.1 hy.1
  have m3 := mul_ok hx.2 hy.2
  unfold m_law_times_ratio g_law_times_ratio
  rw [ev_fn]
  unfold encR at *
  simp [m1, m3, h]
theorem e_law_less (hx : Rz n x) (hy : Rz n y) (hn : n ≤ 40000000) (s : RS) : m_law_less_ratio [encR x, encR y] s = some (.bl (decide (x < y)), s) := by
  have m1 := mul_ok hx.1 hy.2
  have m2 := mul_ok hy.1 hx.2
  unfold m_law_less_ratio g_law_less_ratio
  rw [ev_fn]
  unfold encR at *
  simp [m1, m2, Rat.lt_iff]
end
end W

namespace W
open DL MS L2
def encL (l : List Int) : D := .tup (l.map .int)
theorem all_int (l : List Int) : (l.map D.int).all D.st = true := by
  rw [List.all_eq_true]
  intro x hx
  obtain ⟨i, _, rfl⟩ := List.mem_map.mp hx
  rfl
theorem enc_at {l : List Int} {n : Nat} (h : n < l.length) : atI (l.map D.int) (n : Int) = some (.int l[n]) := by
  rw [at_nat (by simpa using h), List.getElem?_map, List.getElem?_eq_getElem h]
  rfl
theorem tr_loop {l : List Int} {x : D} {s : RS} (hx : x = .tup (l.map .int) ∨ x = .lst (l.map .int)) : ∀ (m fuel : Nat), m < fuel → m ≤ l.length → ∃ k, k ≤ m ∧ (∀ i, k ≤ i → i < m → l.getD i 0 = 0) ∧ (k = 0 ∨ l.getD (k - 1) 0 ≠ 0) ∧
    sWhile (tAndF (bt (f2 (fV 1) (fC (.int 0)) gGt)) (bt (f2 (f2 (fV 0) (f2 (fV 1) (fC (.int 1)) gSub) gIx) (fC (.int 0)) gEq))) (sAug 1 (fC (.int 1)) gSub) fuel [.val x, .val (.int m)] s = .nx [.val x, .val (.int k)] s
  | 0, fuel + 1, _, _ => ⟨0, Nat.le_refl _, fun i h h' => by omega, .inl rfl, by rw [ev_while]; simp⟩
  | m + 1, fuel + 1, hf, hm => by
    have h1 : ((m : Int) + 1 - 1) = m := by omega
    have h3 : (0 : Int) < (m : Int) + 1 := by omega
    have h2 := enc_at (l := l) (n := m) (by omega)
    by_cases h0 : l[m] = 0
    · obtain ⟨k, k1, k2, k3, k4⟩ := tr_loop (s := s) hx m fuel (by omega) (by omega)
      refine ⟨k, by omega, fun i hi hi' => ?_, k3, ?_⟩
      · by_cases e : i = m
        · subst e
          rw [List.getD_eq_getElem?_getD, List.getElem?_eq_getElem (by omega)]
          exact h0
        · exact k2 i hi (by omega)
      · rw [ev_while, ← k4]
        rcases hx with rfl | rfl
        · simp [h1, h2, h0, h3]
        · simp [h1, h2, h0, h3]
    · refine ⟨m + 1, Nat.le_refl _, fun i h h' => by omega, .inr ?_, ?_⟩
      · rw [List.getD_eq_getElem?_getD, Nat.add_sub_cancel, List.getElem?_eq_getElem (by omega)]
        exact h0
      · rw [ev_while]
        rcases hx with rfl | rfl
        · simp [h1, h2, h0, h3]
        · simp [h1, h2, h0, h3]
theorem P_take {l : List Int} {k : Nat} (h : ∀ i, k ≤ i → i < l.length → l.getD i 0 = 0) : P (l.take k) = P l := serEq fun n => by
  rw [P_c, P_c]
  by_cases hn : n < k
  · simp [List.getD_eq_getElem?_getD, List.getElem?_take, hn]
  · rw [List.getD_eq_getElem?_getD, List.getElem?_eq_none (by rw [List.length_take]; omega)]
    by_cases hl : n < l.length
    · rw [h n (by omega) hl]; rfl
    · rw [List.getD_eq_getElem?_getD, List.getElem?_eq_none (by omega)]
theorem e_trimmed {l : List Int} (hl : l.length ≤ 90000) {x : D} (hx : x = .tup (l.map .int) ∨ x = .lst (l.map .int)) (s : RS) :
    ∃ c, m_trimmed [x] s = some (encL c, s) ∧ P c = P l ∧ Tr c ∧ c.length ≤ l.length ∧ ∀ n, Bd n l → Bd n c := by
  obtain ⟨k, k1, k2, k3, k4⟩ := tr_loop (s := s) hx l.length 100000 (by omega) (Nat.le_refl _)
  refine ⟨l.take k, ?_, P_take k2, fun h => ?_, by rw [List.length_take]; omega, fun n h x hx => h x (List.mem_of_mem_take hx)⟩
  · unfold m_trimmed g_trimmed encL
    rw [ev_fn]
    rcases hx with rfl | rfl
    · simp [k4, cut_nat, List.map_take]
    · simp [k4, cut_nat, List.map_take]
  · rw [List.getLast_eq_getElem]
    rcases k3 with k3 | k3
    · subst k3; simp at h
    · have hk : 0 < k := by
        cases k with
        | zero => simp at h
        | succ k => omega
      simp only [List.getElem_take, List.length_take, Nat.min_eq_left k1]
      rwa [List.getD_eq_getElem?_getD, List.getElem?_eq_getElem (by omega)] at k3
theorem zp_map : ∀ (A B : List Int), zpD (A.map D.int) (B.map D.int) = (A.zip B).map fun p => D.tup [.int p.1, .int p.2]
  | [], B => by simp [zpD]
  | _ :: _, [] => by simp [zpD]
  | a :: A, b :: B => by simp [zpD, zp_map A B]
theorem P_zip : ∀ (A B : List Int), A.length = B.length → P ((A.zip B).map fun p => p.1 + p.2) = P A + P B
  | [], [], _ => by simp [P_nil]; grind
  | [], _ :: _, h => by simp at h
  | _ :: _, [], h => by simp at h
  | a :: A, b :: B, h => by
    rw [List.zip_cons_cons, List.map_cons, P_cons, P_cons, P_cons, P_zip A B (by simpa using h), ← C_add]
    grind
theorem P_pad (a : List Int) (k : Nat) : P (a ++ List.replicate k 0) = P a := serEq fun n => by
  rw [P_c, P_c]
  by_cases h : n < a.length
  · simp [List.getD_eq_getElem?_getD, List.getElem?_append_left h]
  · rw [List.getD_eq_getElem?_getD, List.getD_eq_getElem?_getD, List.getElem?_append_right (by omega), List.getElem?_eq_none (l := a) (by omega), List.getElem?_replicate]
    split <;> rfl
theorem rep0 (k : Nat) : List.replicate k (D.int 0) = (List.replicate k (0 : Int)).map D.int := by rw [List.map_replicate]
theorem st_ints (l : List Int) : ∀ x ∈ l.map D.int, x.st = true := List.all_eq_true.mp (all_int l)
theorem e_poly_plus {a b : List Int} (ha : a.length ≤ 40000) (hb : b.length ≤ 40000) (s : RS) :
    ∃ c, m_poly_plus [encL a, encL b] s = some (encL c, s) ∧ P c = P a + P b ∧ Tr c ∧ c.length ≤ max a.length b.length ∧ ∀ n, Bd n a → Bd n b → Bd (n + 1) c := by
  generalize hm : max a.length b.length = m
  generalize hA : a ++ List.replicate (m - a.length) (0 : Int) = A
  generalize hB : b ++ List.replicate (m - b.length) (0 : Int) = B
  have lA : A.length = m := by rw [← hA]; simp; omega
  have lB : B.length = m := by rw [← hB]; simp; omega
  have eA : a.map D.int ++ List.replicate (m - a.length) (D.int 0) = A.map D.int := by rw [rep0, ← List.map_append, hA]
  have eB : b.map D.int ++ List.replicate (m - b.length) (D.int 0) = B.map D.int := by rw [rep0, ← List.map_append, hB]
  obtain ⟨c, c1, c2, c3, c4, c5⟩ := e_trimmed (l := (A.zip B).map fun p => p.1 + p.2) (by simp; omega) (.inr rfl) s
  refine ⟨c, ?_, ?_, c3, ?_, fun n h1 h2 => c5 _ fun x hx => ?_⟩
  · unfold m_poly_plus g_poly_plus
    rw [ev_fn]
    have t1 : max (a.length : Int) (b.length : Int) = m := by omega
    have t2 : ((m : Int) - a.length).toNat = m - a.length := by omega
    have t3 : ((m : Int) - b.length).toNat = m - b.length := by omega
    have t4 : (m : Int) ≤ 1000000 := by omega
    have b1 : -4611686018427387904 ≤ (m : Int) - a.length := by omega
    have b2 : (m : Int) - a.length ≤ 1000000 := by omega
    have b3 : -4611686018427387904 ≤ (m : Int) - b.length := by omega
    have b4 : (m : Int) - b.length ≤ 1000000 := by omega
    have b5 : m - a.length ≤ 1000000 := by omega
    have b6 : m - b.length ≤ 1000000 := by omega
    have b7 : a.length + (m - a.length) ≤ 1000000 := by omega
    have b8 : b.length + (m - b.length) ≤ 1000000 := by omega
    have z : m ≤ 1000000 := by omega
    have lc := lc_map (h := hTup (hCons (hName 5) (hCons (hName 6) hNil))) (fa := f2 (fV 5) (fV 6) gAdd) (env := [.val (encL a), .val (encL b), .val (.int m), .val (.lst (A.map .int)), .val (.lst (B.map .int)), .no, .no]) (s := s)
      (fun p : Int × Int => p.1 + p.2) (fun p => D.tup [.int p.1, .int p.2]) D.int (fun _ => rfl) (A.zip B) (fun p _ => ⟨_, by simp; rfl, by simp⟩)
    unfold encL at lc ⊢
    simp [t1, t2, t3, b1, b2, b3, b4, b5, b6, b7, b8, z, eA, eB, zp_map, lc, c1, lA, lB, -List.map_map, encL]
  · rw [c2, P_zip A B (by omega), ← hA, ← hB, P_pad, P_pad]
  · refine Nat.le_trans c4 ?_
    simp; omega
  · obtain ⟨p, hp, rfl⟩ := List.mem_map.mp hx
    have p1 := List.of_mem_zip hp
    have q1 : Sz n p.1 := Bs.list (l := A) (by rw [← hA, P_pad]; exact h1.ser) _ p1.1
    have q2 : Sz n p.2 := Bs.list (l := B) (by rw [← hB, P_pad]; exact h2.ser) _ p1.2
    exact q1.add q2
theorem mul_okS {i j : Int} {n m : Nat} (hi : Sz n i) (hj : Sz m j) (h : n + m ≤ 99999999) : mulOk i j = true := mul_ok (n := n) (m := m) hi hj h
theorem e_scaled {a : List Int} {k : Int} {n m : Nat} (ha : a.length ≤ 40000) (hk : Sz m k) (hb : Bd n a) (hs : m + n ≤ 99999999) (s : RS) :
    ∃ c, m_scaled [encL a, .int k] s = some (encL c, s) ∧ P c = C k * P a ∧ Tr c ∧ c.length ≤ a.length ∧ Bd (m + n) c := by
  obtain ⟨c, c1, c2, c3, c4, c5⟩ := e_trimmed (l := a.map (k * ·)) (by simp; omega) (.inr rfl) s
  refine ⟨c, ?_, by rw [c2, smL_P], c3, by simpa using c4, c5 _ fun x hx => ?_⟩
  · have lc := lc_map (h := hName 2) (fa := f2 (fV 1) (fV 2) gMul) (env := [.val (encL a), .val (.int k), .no]) (s := s)
      (fun x : Int => k * x) D.int D.int (fun _ => rfl) a (fun x hx => ⟨_, by simp; rfl, by simp [mul_okS hk (hb x hx) hs]⟩)
    have z : a.length ≤ 1000000 := by omega
    unfold m_scaled g_scaled
    rw [ev_fn]
    unfold encL at *
    simp [z, lc, c1, -List.map_map]
  · obtain ⟨y, hy, rfl⟩ := List.mem_map.mp hx
    exact hk.mul (hb y hy)
theorem e_poly_minus {a b : List Int} {n : Nat} (ha : a.length ≤ 40000) (hb : b.length ≤ 40000) (h1 : Bd n a) (h2 : Bd n b) (hs : n ≤ 99999990) (s : RS) :
    ∃ c, m_poly_minus [encL a, encL b] s = some (encL c, s) ∧ P c = P a - P b ∧ Tr c ∧ c.length ≤ max a.length b.length ∧ Bd (n + 2) c := by
  obtain ⟨d, d1, d2, d3, d4, d5⟩ := e_scaled (a := b) (k := -1) (m := 1) (n := n) hb (by unfold Sz; decide) h2 (by omega) s
  obtain ⟨c, c1, c2, c3, c4, c5⟩ := e_poly_plus (a := a) (b := d) ha (by omega) s
  refine ⟨c, ?_, ?_, c3, by omega, (c5 (n + 1) (h1.mono (by omega)) (d5.mono (by omega))).mono (by omega)⟩
  · unfold m_poly_minus g_poly_minus
    rw [ev_fn]
    unfold encL at *
    simp [d1, c1]
  · rw [c2, d2, show (-1 : Int) = -(1 : Int) by rfl, C_neg, C_one]
    grind
theorem enc_set {F : List Int} {i : Nat} {v : Int} : (F.map D.int).set i (.int v) = (F.set i v).map D.int := by rw [List.map_set]
theorem times_in {o p : Sl} {i : Nat} {a : Int} {na nb : Nat} (ha : Sz na a) (hs : na + nb ≤ 99999999) {s : RS} : ∀ (b : List Int) (j : Nat) (F : List Int) (e5 e6 : Sl), Bd nb b → notOwn (some e5) = true → notOwn (some e6) = true →
    i + j + b.length ≤ F.length → ∃ F' e5' e6', F'.length = F.length ∧ P F' = P F + Sh (i + j) * (C a * P b) ∧ notOwn (some e5') = true ∧ notOwn (some e6') = true ∧
    sForGo (hTup (hCons (hName 5) (hCons (hName 6) hNil))) (sAugIx 2 (f2 (fV 3) (fV 5) gAdd) (f2 (fV 4) (fV 6) gMul) gAddI) (enD j (b.map D.int)) [o, p, .own (F.map .int), .val (.int i), .val (.int a), e5, e6] s =
      .nx [o, p, .own (F'.map .int), .val (.int i), .val (.int a), e5', e6'] s
  | [], j, F, e5, e6, _, h5, h6, _ => ⟨F, e5, e6, rfl, by rw [P_nil]; grind, h5, h6, rfl⟩
  | b :: l, j, F, e5, e6, hb, h5, h6, hl => by
    have hlt : i + j < F.length := by rw [List.length_cons] at hl; omega
    obtain ⟨F', e5', e6', g1, g2, g3, g4, g5⟩ := times_in (o := o) (p := p) (i := i) ha hs (s := s) l (j + 1) (F.set (i + j) (F[i + j] + a * b)) (.val (.int j)) (.val (.int b)) (fun x hx => hb x (List.mem_cons_of_mem _ hx)) rfl rfl (by rw [List.length_set]; rw [List.length_cons] at hl; omega)
    refine ⟨F', e5', e6', by rw [g1, List.length_set], ?_, g3, g4, ?_⟩
    · rw [g2, P_set hlt, P_cons, show i + (j + 1) = (i + j) + 1 by omega, Sh_succ, ← C_mulC]
      grind
    · rw [← g5]
      have c1 : (i : Int) + (j : Int) = ((i + j : Nat) : Int) := by omega
      have c2 := enc_at hlt
      have c3 : ixN F.length ((i + j : Nat) : Int) = some (i + j) := ix_nat hlt
      have c4 := mul_okS ha (hb b List.mem_cons_self) hs
      rw [List.map_cons, enD, ev_go]
      simp [h5, h6, c1, c2, c3, c4, -Int.natCast_add]
theorem times_out {o : Sl} {b : List Int} {na nb : Nat} (hs : na + nb ≤ 99999999) (hb : Bd nb b) {s : RS} : ∀ (a : List Int) (i : Nat) (F : List Int) (e3 e4 e5 e6 : Sl), Bd na a → notOwn (some e3) = true → notOwn (some e4) = true → notOwn (some e5) = true → notOwn (some e6) = true →
    i + a.length + b.length ≤ F.length + 1 → ∃ F' e3' e4' e5' e6', P F' = P F + Sh i * (P a * P b) ∧ F'.length = F.length ∧
    sForGo (hTup (hCons (hName 3) (hCons (hName 4) hNil))) (sFor (iEn (fCons (fV 1) fNil)) (hTup (hCons (hName 5) (hCons (hName 6) hNil))) (sAugIx 2 (f2 (fV 3) (fV 5) gAdd) (f2 (fV 4) (fV 6) gMul) gAddI)) (enD i (a.map D.int)) [o, .val (encL b), .own (F.map .int), e3, e4, e5, e6] s =
      .nx [o, .val (encL b), .own (F'.map .int), e3', e4', e5', e6'] s
  | [], i, F, e3, e4, e5, e6, _, h3, h4, h5, h6, _ => ⟨F, e3, e4, e5, e6, by rw [P_nil]; grind, rfl, rfl⟩
  | a :: l, i, F, e3, e4, e5, e6, ha, h3, h4, h5, h6, hl => by
    obtain ⟨F1, e5', e6', g1, g2, g3, g4, g5⟩ := times_in (o := o) (p := .val (encL b)) (i := i) (ha a List.mem_cons_self) hs (s := s) b 0 F e5 e6 hb h5 h6 (by rw [List.length_cons] at hl; omega)
    obtain ⟨F', e3'', e4'', e5'', e6'', k1, k2, k3⟩ := times_out (o := o) hs hb (s := s) l (i + 1) F1 (.val (.int i)) (.val (.int a)) e5' e6' (fun x hx => ha x (List.mem_cons_of_mem _ hx)) rfl rfl g3 g4 (by rw [List.length_cons] at hl; omega)
    refine ⟨F', e3'', e4'', e5'', e6'', ?_, by rw [k2, g1], ?_⟩
    · rw [k1, g2, Nat.add_zero, P_cons, Sh_succ]
      grind
    · rw [← k3, List.map_cons, enD, ev_go]
      unfold encL at *
      simp [h3, h4, g5]
theorem e_poly_times {a b : List Int} {na nb : Nat} (ta : Tr a) (tb : Tr b) (la : a.length ≤ 40000) (lb : b.length ≤ 40000) (ha : Bd na a) (hb : Bd nb b) (hs : na + nb ≤ 99999999) (s : RS) :
    ∃ c, m_poly_times [encL a, encL b] s = some (encL c, s) ∧ P c = P a * P b ∧ Tr c ∧ (c.length ≤ a.length + b.length - 1) ∧ Bd (na + nb + a.length) c := by
  have size : ∀ c, P c = P a * P b → Bd (na + nb + a.length) c := fun c e => Bs.list (by rw [e]; exact mul_size hb.ser a ha)
  by_cases ea : a = []
  · subst ea
    refine ⟨[], ?_, by rw [P_nil]; grind, fun h => absurd rfl h, by simp, fun x hx => by simp at hx⟩
    unfold m_poly_times g_poly_times encL
    rw [ev_fn]
    have := gEq_pl (x := .tup []) (y := .tup []) rfl rfl
    simp [this]
  by_cases eb : b = []
  · subst eb
    refine ⟨[], ?_, by rw [P_nil]; grind, fun h => absurd rfl h, by simp, fun x hx => by simp at hx⟩
    unfold m_poly_times g_poly_times encL
    rw [ev_fn]
    have p1 : plT 60 (.tup (a.map .int)) = true := pls_all fun d hd => by obtain ⟨i, _, rfl⟩ := List.mem_map.mp hd; exact pl_int
    have h1 := gEq_pl (x := .tup (a.map .int)) (y := .tup []) p1 rfl
    have h2 := gEq_pl (x := .tup []) (y := .tup []) rfl rfl
    simp [h1, h2, ea]
  have l1 : 0 < a.length := List.length_pos_iff.mpr ea
  have l2 : 0 < b.length := List.length_pos_iff.mpr eb
  generalize hm : a.length + b.length - 1 = m
  obtain ⟨F, e3, e4, e5, e6, f1, f2', f3⟩ := times_out (o := .val (encL a)) hs hb (s := s) a 0 (List.replicate m 0) .no .no .no .no ha rfl rfl rfl rfl (by simp; omega)
  rw [P_rep0, Sh_zero] at f1
  obtain ⟨c, c1, c2, c3, c4, c5⟩ := e_trimmed (l := F) (by rw [f2']; simp; omega) (.inr rfl) s
  have e := c2.trans (f1.trans (by grind : (0 : Ser Int) + 1 * (P a * P b) = P a * P b))
  refine ⟨c, ?_, e, c3, by rw [f2'] at c4; simpa using c4, size c e⟩
  unfold m_poly_times g_poly_times
  rw [ev_fn]
  have p1 : ∀ l : List Int, plT 60 (.tup (l.map .int)) = true := fun l => pls_all fun d hd => by obtain ⟨i, _, rfl⟩ := List.mem_map.mp hd; exact pl_int
  have h1 := gEq_pl (x := .tup (a.map .int)) (y := .tup []) (p1 a) rfl
  have h2 := gEq_pl (x := .tup (b.map .int)) (y := .tup []) (p1 b) rfl
  have b1 : (a.length : Int) + b.length - 1 = m := by omega
  have b2 : -4611686018427387904 ≤ (m : Int) := by omega
  have b3 : (m : Int) ≤ 1000000 := by omega
  have b4 : m ≤ 1000000 := by omega
  unfold encL at *
  simp [h1, h2, ea, eb, b1, b2, b3, b4, f3, c1, rep0, -List.map_replicate]
theorem ct_loop {x : Sl} {s : RS} : ∀ (l : List Int) (g : Nat) (e : Sl), notOwn (some e) = true → ∃ e', notOwn (some e') = true ∧
    sForGo (hName 2) (sSet 1 (xVal (fA1 (fCons (fV 1) (fCons (fV 2) fNil)) gGcd))) (l.map D.int) [x, .val (.int g), e] s = .nx [x, .val (.int (ctf g l : Nat)), e'] s
  | [], g, e, h => ⟨e, h, rfl⟩
  | a :: l, g, e, h => by
    obtain ⟨e', h1, h2⟩ := ct_loop (x := x) (s := s) l (Nat.gcd g a.natAbs) (.val (.int a)) rfl
    refine ⟨e', h1, ?_⟩
    rw [List.map_cons, ev_go]
    simp [h]
    exact h2
theorem e_content (l : List Int) (s : RS) : m_content [encL l] s = some (.int (ct l : Nat), s) := by
  obtain ⟨e', _, h⟩ := ct_loop (x := .val (encL l)) (s := s) l 0 .no rfl
  have h' : sForGo (hName 2) (sSet 1 (xVal (fA1 (fCons (fV 1) (fCons (fV 2) fNil)) gGcd))) (l.map D.int) [.val (encL l), .val (.int 0), .no] s = _ := h
  unfold m_content g_content
  rw [ev_fn]
  unfold encL at *
  simp [h', ct]
theorem pl_enc (l : List Int) : plT 60 (.tup (l.map .int)) = true := pls_all fun d hd => by obtain ⟨i, _, rfl⟩ := List.mem_map.mp hd; exact pl_int
theorem eq_nil (l : List Int) : gEq (.tup (l.map .int)) (.tup []) = some (.bl (decide (l = []))) := by
  rw [gEq_pl (pl_enc l) rfl]
  congr 2
  by_cases h : l = []
  · subst h; simp
  · rw [decide_eq_false h, @decide_eq_false _ (Classical.propDecidable _)]
    intro z
    cases l with
    | nil => exact h rfl
    | cons a l => cases z
theorem ne_nil (l : List Int) : gNe (.tup (l.map .int)) (.tup []) = some (.bl (!decide (l = []))) := by
  have h := eq_nil l
  unfold gEq at h
  unfold gNe
  rw [if_pos ⟨plT_ok 60 _ (pl_enc l), plT_ok 60 _ rfl⟩] at h ⊢
  have h' := D.bl.inj (Option.some.inj h)
  rw [h']
theorem enc_last {l : List Int} (h : l ≠ []) : atI (l.map D.int) (-1) = some (.int (l.getLast h)) := by
  rw [at_last (by simpa using h), List.getLast?_map, List.getLast?_eq_some_getLast h]
  rfl
theorem lc_fdiv {l : List Int} {k : Int} (hk : k ≠ 0) {i j : Nat} {env : Ev} {s : RS} (hj : j < env.length) (hn : notOwn env[j]? = true) (hij : i ≠ j) (hi : env[i]? = some (.val (.int k))) :
    lcGo (hName j) tYesF (f2 (fV j) (fV i) gFdiv) env (l.map D.int) s = some ((l.map fun x => x.fdiv k).map D.int, s) := by
  refine lc_map (h := hName j) (fa := f2 (fV j) (fV i) gFdiv) (env := env) (s := s) (fun x : Int => x.fdiv k) D.int D.int (fun _ => rfl) l fun x hx => ⟨env.set j (.val (.int x)), by rw [ev_hName, if_pos ⟨hj, hn⟩], ?_⟩
  have h1 : (env.set j (.val (.int x)))[j]? = some (.val (.int x)) := by rw [List.getElem?_set_self hj]
  have h2 : (env.set j (.val (.int x)))[i]? = some (.val (.int k)) := by rw [List.getElem?_set_ne (Ne.symm hij)]; exact hi
  simp only [ev_f2, ev_V, h1, h2, gFdiv_ii, if_pos hk]
theorem e_primitive {l : List Int} (hl : l.length ≤ 90000) (t : Tr l) (s : RS) : ∃ c e, m_primitive [encL l] s = some (encL c, s) ∧ e ≠ 0 ∧ P l = C e * P c ∧ Tr c ∧ c.length = l.length ∧ (∀ n, Bd n l → Bd n c) ∧ (l ≠ [] → Prim (P c)) := by
  by_cases h : l = []
  · subst h
    refine ⟨[], 1, ?_, by decide, by rw [P_nil]; grind, fun h => absurd rfl h, rfl, fun n h => h, fun h => absurd rfl h⟩
    unfold m_primitive g_primitive encL
    rw [ev_fn]
    have := eq_nil []
    simp at this
    simp [this]
  · have h0 := ct_ne t h
    generalize he : (if l.getLast h < 0 then -((ct l : Nat) : Int) else ((ct l : Nat) : Int)) = e
    have e0 : e ≠ 0 := by rw [← he]; split <;> omega
    have en : e.natAbs = ct l := by rw [← he]; split <;> omega
    have dv : ∀ x ∈ l, e ∣ x := fun x hx => Int.natAbs_dvd.mp (by rw [en]; exact ct_dvd l x hx)
    have D := divd e0 dv
    refine ⟨_, e, ?_, e0, D.ser, D.tr t, D.len, D.bd, fun _ => divd_prim D en h0⟩
    have c1 := e_content l s
    have c2 := eq_nil l
    have c3 := enc_last h
    have z : l.length ≤ 1000000 := by omega
    unfold m_primitive g_primitive
    rw [ev_fn]
    unfold encL at *
    by_cases hneg : l.getLast h < 0
    · rw [if_pos hneg] at he
      have lc := lc_fdiv (l := l) e0 (i := 1) (j := 2) (env := [.val (.tup (l.map .int)), .val (.int e), .no]) (s := s) (by simp) rfl (by decide) rfl
      simp [c1, c2, c3, h, hneg, he, z, lc, -List.map_map]
    · rw [if_neg hneg] at he
      have lc := lc_fdiv (l := l) e0 (i := 1) (j := 2) (env := [.val (.tup (l.map .int)), .val (.int e), .no]) (s := s) (by simp) rfl (by decide) rfl
      simp [c1, c2, c3, h, hneg, he, z, lc, -List.map_map]
theorem rem_loop {other : List Int} {x : Nat} (to : Tr other) (ho : other ≠ []) (lo : other.length ≤ 9000) (bo : Bd x other) {one : Sl} {s : RS} : ∀ (fuel : Nat) (rest : List Int) (r : Nat) (e4 e5 : Sl),
    rest.length < fuel → rest.length ≤ 9000 → Tr rest → Bd r rest → r + (rest.length + 1 - other.length) * (x + 2) ≤ 99999000 → ∃ rest' c q e4' e5', Tr rest' ∧ rest'.length < other.length ∧ rest'.length ≤ rest.length ∧ c ≠ 0 ∧ Pol q ∧ C c * P rest = q * P other + P rest' ∧
      Bd (r + (rest.length + 1 - other.length) * (x + 2)) rest' ∧
    sWhile (bt (f2 (fA1 (fCons (fV 2) fNil) gLen) (fA1 (fCons (fV 1) fNil) gLen) gGe)) (sSeq (sSet 4 (xVal (f2 (fA1 (fCons (fV 2) fNil) gLen) (fA1 (fCons (fV 1) fNil) gLen) DL.gSub)))
  (sSeq (sSet 5 (xVal (fCall 2 (fCons (fA1 (fStar (f2 (fA1 (fCons (fC (.int 0)) fNil) gLstD) (fV 4) gMul) (fStar (fV 1) fNil)) gTupD) (fCons (fIf (bt (f2 (fV 3) (fC (.int 0)) gGt)) (f2 (fV 2) (f1 (fC (.int 1)) gNeg) gIx) (f1 (f2 (fV 2) (f1 (fC (.int 1)) gNeg) gIx) gNeg)) fNil)) m_scaled)))
  (sSet 2 (xVal (fCall 2 (fCons (fCall 2 (fCons (fV 2) (fCons (fA1 (fCons (fV 3) fNil) gAbs) fNil)) m_scaled) (fCons (fV 5) fNil)) m_poly_minus))))) fuel
      [one, .val (encL other), .val (encL rest), .val (.int (other.getLast ho)), e4, e5, .no, .no] s = .nx [one, .val (encL other), .val (encL rest'), .val (.int (other.getLast ho)), e4', e5', .no, .no] s
  | fuel + 1, rest, r, e4, e5, hf, hl, tr, br, hs => by
    have lo0 : 0 < other.length := List.length_pos_iff.mpr ho
    by_cases hlt : rest.length < other.length
    · refine ⟨rest, 1, 0, e4, e5, tr, hlt, Nat.le_refl _, by decide, Pol.zero, by rw [C_one]; grind, br.mono (by omega), ?_⟩
      rw [ev_while]
      unfold encL
      simp [Nat.not_le.mpr hlt]
    · have hr : rest ≠ [] := fun z => by
        have := congrArg List.length z
        rw [List.length_nil] at this
        omega
      have hr0 : 0 < rest.length := List.length_pos_iff.mpr hr
      generalize hsh : rest.length - other.length = sh
      generalize hlead : other.getLast ho = lead at *
      have lead0 : lead ≠ 0 := by rw [← hlead]; exact to ho
      generalize hk : (if 0 < lead then rest.getLast hr else -rest.getLast hr) = k
      have bl : Sz x lead := by rw [← hlead]; exact bo _ (List.getLast_mem ho)
      have bk : Sz r k := by
        rw [← hk]
        have := br _ (List.getLast_mem hr)
        split
        · exact this
        · exact this.neg
      have bp : Bd x (List.replicate sh 0 ++ other) := fun y hy => by
        rcases List.mem_append.mp hy with h | h
        · rw [(List.mem_replicate.mp h).2]; exact Sz.zero
        · exact bo y h
      have n1 : rest.length + 1 - other.length = sh + 1 := by omega
      have n2 : (sh + 1) * (x + 2) = sh * (x + 2) + (x + 2) := by grind
      rw [n1] at hs ⊢
      obtain ⟨part, p1, p2, p3, p4, p5⟩ := e_scaled (a := List.replicate sh 0 ++ other) (k := k) (n := x) (m := r) (by simp; omega) bk bp (by omega) s
      obtain ⟨up, u1, u2, u3, u4, u5⟩ := e_scaled (a := rest) (k := (lead.natAbs : Int)) (n := r) (m := x) (by omega) (by unfold Sz at *; rw [Int.natAbs_natCast]; exact bl) br (by omega) s
      obtain ⟨new, w1, w2, w3, w4, w5⟩ := e_poly_minus (a := up) (b := part) (n := r + x) (by omega) (by simp at p4; omega) (u5.mono (by omega)) (p5.mono (by omega)) (by omega) s
      rw [P_shift] at p2
      have top : (P new).c (rest.length - 1) = 0 := by
        rw [w2, u2, p2, sub_c, C_mul, C_mul, show rest.length - 1 = sh + (other.length - 1) by omega, Sh_mul, P_last ho, show sh + (other.length - 1) = rest.length - 1 by omega, P_last hr, hlead, ← hk]
        split
        · rw [show (lead.natAbs : Int) = lead by omega]; grind
        · rw [show (lead.natAbs : Int) = -lead by omega]; grind
      have lnew : new.length ≤ rest.length - 1 := w3.le fun n hn => by
        by_cases e : n = rest.length - 1
        · rw [e]; exact top
        · refine P_dg new n ?_
          simp at p4
          omega
      have small : new.length + 1 - other.length ≤ sh := by omega
      have small2 : (new.length + 1 - other.length) * (x + 2) ≤ sh * (x + 2) := Nat.mul_le_mul_right _ small
      obtain ⟨rest', c, q, e4', e5', g1, g2, g3, g4, g5, g6, g7, g8⟩ := rem_loop to ho lo bo (one := one) (s := s) fuel new (r + x + 2) (.val (.int sh)) (.val (encL part)) (by omega) (by omega) w3 w5 (by omega)
      refine ⟨rest', c * lead.natAbs, q + C c * (C k * Sh sh), e4', e5', g1, g2, by omega, Int.mul_ne_zero g4 (by omega), g5.add (Pol.C.mul (Pol.C.mul (Sh_pol sh))), ?_, g7.mono (by omega), ?_⟩
      · rw [← C_mulC]
        rw [w2, u2, p2] at g6
        grind
      · rw [hlead] at g8
        rw [ev_while, ← g8]
        have c1 : (rest.length : Int) - other.length = sh := by omega
        have c2 := enc_last hr
        have c3 : -4611686018427387904 ≤ (sh : Int) := by omega
        have c4 : (sh : Int) ≤ 1000000 := by omega
        have c5 : sh ≤ 1000000 := by omega
        have c6 : sh + other.length ≤ 1000000 := by omega
        have c7 : other.length ≤ rest.length := by omega
        unfold encL at *
        rw [List.map_append, ← rep0] at p1
        by_cases hpos : 0 < lead
        · rw [if_pos hpos] at hk
          simp [c1, c2, c3, c4, c5, c6, c7, hpos, hk, p1, u1, w1]
        · rw [if_neg hpos] at hk
          simp [c1, c2, c3, c4, c5, c6, c7, hpos, hk, p1, u1, w1]
theorem e_remainder {one other : List Int} {x : Nat} (t1 : Tr one) (to : Tr other) (ho : other ≠ []) (l1 : one.length ≤ 9000) (lo : other.length ≤ 9000) (b1 : Bd x one) (bo : Bd x other) (hs : x + (one.length + 1 - other.length) * (x + 2) ≤ 99999000) (s : RS) :
    ∃ c k m q, m_remainder [encL one, encL other] s = some (encL c, s) ∧ k ≠ 0 ∧ m ≠ 0 ∧ Pol q ∧ C k * P one = q * P other + C m * P c ∧ Tr c ∧ c.length < other.length ∧ Bd (x + (one.length + 1 - other.length) * (x + 2)) c := by
  obtain ⟨r, k, q, e4, e5, g1, g2, g3, g4, g5, g6, g7, g8⟩ := rem_loop to ho lo bo (one := .val (encL one)) (s := s) 100000 one x .no .no (by omega) (by omega) t1 b1 hs
  have c1 := e_content r s
  have c2 := enc_last ho
  have z : r.length ≤ 1000000 := by omega
  by_cases h : 1 < ct r
  · have D := divd (e := ct r) (by omega) (ct_dvd r)
    refine ⟨_, k, ct r, q, ?_, g4, by omega, g5, by rw [g6, D.ser], D.tr g1, by rw [D.len]; omega, D.bd _ g7⟩
    have lc := lc_fdiv (l := r) (k := ct r) (by omega) (i := 6) (j := 7) (env := [.val (encL one), .val (encL other), .val (encL r), .val (.int (other.getLast ho)), e4, e5, .val (.int (ct r)), .no]) (s := s) (by simp) rfl (by decide) rfl
    have h' : (1 : Int) < (ct r : Int) := by omega
    unfold m_remainder g_remainder
    rw [ev_fn]
    unfold encL at *
    simp [g8, c1, c2, h', lc, z, -List.map_map]
  · refine ⟨r, k, 1, q, ?_, g4, by decide, g5, by rw [g6, C_one]; grind, g1, g2, g7⟩
    have h' : ¬ (1 : Int) < (ct r : Int) := by omega
    unfold m_remainder g_remainder
    rw [ev_fn]
    unfold encL at *
    simp [g8, c1, c2, h', z, -List.map_map]
theorem com_loop {a0 b0 : Ser Int} {s : RS} : ∀ (fuel : Nat) (a b : List Int) (x : Nat), b.length < fuel → a ≠ [] → Tr a → Tr b → a.length ≤ 9000 → b.length ≤ 9000 → Bd x a → Bd x b → Eu a0 b0 (P a) (P b) →
    (b ≠ [] → (a.length + 1 - b.length + 1) * (x + 2) * 3 ^ (b.length - 1) ≤ 99999000) →
    ∃ g, g ≠ [] ∧ Tr g ∧ g.length ≤ 9000 ∧ Eu a0 b0 (P g) 0 ∧ sWhile (bt (f2 (fV 1) (fA1 fNil gTupD) gNe)) (sPar [0, 1] (xsCons (xVal (fV 1)) (xsCons (xVal (fCall 1 (fCons (fCall 2 (fCons (fV 0) (fCons (fV 1) fNil)) m_remainder) fNil) m_primitive)) xsNil))) fuel
      [.val (encL a), .val (encL b)] s = .nx [.val (encL g), .val (encL [])] s
  | fuel + 1, a, b, x, hf, ha, ta, tb, la, lb, ba, bb, E, hc => by
    by_cases hb : b = []
    · subst hb
      refine ⟨a, ha, ta, la, by rw [P_nil] at E; exact E, ?_⟩
      rw [ev_while]
      have := ne_nil []
      simp at this
      unfold encL
      simp [this]
    · have hc := hc hb
      have lb0 : 0 < b.length := List.length_pos_iff.mpr hb
      have p3 : 1 ≤ 3 ^ (b.length - 1) := Nat.one_le_pow _ _ (by decide)
      have hbits : (a.length + 1 - b.length + 1) * (x + 2) ≤ 99999000 := Nat.le_trans (Nat.le_mul_of_pos_right _ p3) hc
      have hx : (a.length + 1 - b.length + 1) * (x + 2) = x + (a.length + 1 - b.length) * (x + 2) + 2 := by grind
      obtain ⟨r, k, m, q, r1, r2, r3, r4, r5, r6, r7, r8⟩ := e_remainder ta tb hb la lb ba bb (by omega) s
      obtain ⟨d, e, d1, d2, d3, d4, d5, d6, _⟩ := e_primitive (l := r) (by omega) r6 s
      have bd' := d6 _ r8
      obtain ⟨g, g1, g2, g3, g4, g5⟩ := com_loop (a0 := a0) (b0 := b0) (s := s) fuel b d (x + (a.length + 1 - b.length) * (x + 2)) (by omega) hb tb d4 lb (by omega) (bb.mono (by omega)) bd'
        (E.step r2 (m := m * e) (Int.mul_ne_zero r3 d2) r4 (by rw [r5, d3, ← C_mulC]; grind)) (fun hd => by
          have ld0 : 0 < d.length := List.length_pos_iff.mpr hd
          rw [← hx]
          have t := three_pow (b.length - d.length) (by omega)
          have e1 : b.length + 1 - d.length + 1 = (b.length - d.length) + 2 := by omega
          have e2 : 3 ^ (b.length - 1) = 3 ^ (b.length - d.length) * 3 ^ (d.length - 1) := by
            rw [← Nat.pow_add]
            congr 1
            omega
          rw [e1]
          rw [e2] at hc
          refine Nat.le_trans ?_ hc
          have t2 := Nat.mul_le_mul_right ((a.length + 1 - b.length + 1) * (x + 2)) t
          have t3 := Nat.mul_le_mul_right (3 ^ (d.length - 1)) t2
          refine Nat.le_trans t3 (Nat.le_of_eq ?_)
          grind)
      refine ⟨g, g1, g2, g3, g4, ?_⟩
      rw [ev_while, ← g5]
      have c1 := ne_nil b
      unfold encL at *
      simp [c1, hb, r1, d1]
theorem e_common {a b : List Int} {x : Nat} (ha : a ≠ []) (hb : b ≠ []) (ta : Tr a) (tb : Tr b) (la : a.length ≤ 9000) (lb : b.length ≤ 9000) (ba : Bd x a) (bb : Bd x b) (hc : (a.length + 1 - b.length + 1) * (x + 2) * 3 ^ (b.length - 1) ≤ 99999000) (s : RS) :
    ∃ g, m_common [encL a, encL b] s = some (encL g, s) ∧ g ≠ [] ∧ Tr g ∧ g.length ≤ 9000 ∧ Prim (P g) ∧ Eu (P a) (P b) (P g) 0 := by
  obtain ⟨g, g1, g2, g3, g4, g5⟩ := com_loop (s := s) 100000 a b x (by omega) ha ta tb la lb ba bb (Eu.start _ _) (fun _ => hc)
  obtain ⟨d, e, d1, d2, d3, d4, d5, d6, d7⟩ := e_primitive (l := g) (by omega) g2 s
  have ld : d ≠ [] := fun z => g1 (List.length_eq_zero_iff.mp (by rw [← d5, z]; rfl))
  refine ⟨d, ?_, ld, d4, by omega, d7 g1, g4.unit d2 d3⟩
  unfold m_common g_common
  rw [ev_fn]
  unfold encL at *
  simp [g5, d1]
theorem quo_in {o p : Sl} {n : Nat} {v : Int} {F : List Int} {nv nb : Nat} (hF : n < F.length) (hv : F[n] = v) (bv : Sz nv v) (hs : nv + nb ≤ 99999999) {s : RS} : ∀ (b : List Int) (j : Nat) (R : List Int) (e5 e6 : Sl), Bd nb b → notOwn (some e5) = true → notOwn (some e6) = true →
    n + j + b.length ≤ R.length → ∃ R' e5' e6', R'.length = R.length ∧ P R' = P R - Sh (n + j) * (C v * P b) ∧ notOwn (some e5') = true ∧ notOwn (some e6') = true ∧
    sForGo (hTup (hCons (hName 5) (hCons (hName 6) hNil))) (sAugIx 2 (f2 (fV 4) (fV 5) gAdd) (f2 (f2 (fV 3) (fV 4) gIx) (fV 6) gMul) DL.gSub) (enD j (b.map D.int)) [o, p, .own (R.map .int), .own (F.map .int), .val (.int n), e5, e6] s =
      .nx [o, p, .own (R'.map .int), .own (F.map .int), .val (.int n), e5', e6'] s
  | [], j, R, e5, e6, _, h5, h6, _ => ⟨R, e5, e6, rfl, by rw [P_nil]; grind, h5, h6, rfl⟩
  | b :: l, j, R, e5, e6, hb, h5, h6, hl => by
    have hlt : n + j < R.length := by rw [List.length_cons] at hl; omega
    obtain ⟨R', e5', e6', g1, g2, g3, g4, g5⟩ := quo_in (o := o) (p := p) (n := n) hF hv bv hs (s := s) l (j + 1) (R.set (n + j) (R[n + j] - v * b)) (.val (.int j)) (.val (.int b)) (fun x hx => hb x (List.mem_cons_of_mem _ hx)) rfl rfl (by rw [List.length_set]; rw [List.length_cons] at hl; omega)
    refine ⟨R', e5', e6', by rw [g1, List.length_set], ?_, g3, g4, ?_⟩
    · rw [g2, show R[n + j] - v * b = R[n + j] + -(v * b) by omega, P_set hlt, P_cons, show n + (j + 1) = (n + j) + 1 by omega, Sh_succ, C_neg, ← C_mulC]
      grind
    · rw [← g5]
      have c1 : (n : Int) + (j : Int) = ((n + j : Nat) : Int) := by omega
      have c2 := enc_at hlt
      have c3 : ixN R.length ((n + j : Nat) : Int) = some (n + j) := ix_nat hlt
      have c4 := mul_okS bv (hb b List.mem_cons_self) hs
      have c5 := enc_at hF
      rw [hv] at c5
      rw [List.map_cons, enD, ev_go]
      simp [h5, h6, c1, c2, c3, c4, c5, -Int.natCast_add]
theorem quo_loop {o : Sl} {other : List Int} {Q : Ser Int} {nb nq : Nat} (to : Tr other) (ho : other ≠ []) (bo : Bd nb other) (bq : Bs nq Q) (hs : nq + nb ≤ 99999999) {s : RS} : ∀ (n : Nat) (R F : List Int) (e4 e5 e6 : Sl), notOwn (some e4) = true → notOwn (some e5) = true → notOwn (some e6) = true →
    n ≤ F.length → n + other.length ≤ R.length + 1 → P R = P other * lowS n Q → (∀ k, n ≤ k → k < F.length → F.getD k 0 = Q.c k) → ∃ (R' F' : List Int) (e4' e5' e6' : Sl), F'.length = F.length ∧ (∀ k, k < F.length → F'.getD k 0 = Q.c k) ∧
    sForGo (hName 4) (sSeq (sSetIx 3 (f2 (f2 (fV 2) (f2 (f2 (fV 4) (fA1 (fCons (fV 1) fNil) gLen) gAdd) (fC (.int 1)) DL.gSub) gIx) (f2 (fV 1) (f1 (fC (.int 1)) gNeg) gIx) gFdiv) (fV 4))
  (sFor (iEn (fCons (fV 1) fNil)) (hTup (hCons (hName 5) (hCons (hName 6) hNil)))
  (sAugIx 2 (f2 (fV 4) (fV 5) gAdd) (f2 (f2 (fV 3) (fV 4) gIx) (fV 6) gMul) DL.gSub))) (rgN ((n : Int) - 1) n) [o, .val (encL other), .own (R.map .int), .own (F.map .int), e4, e5, e6] s =
      .nx [o, .val (encL other), .own (R'.map .int), .own (F'.map .int), e4', e5', e6'] s
  | 0, R, F, e4, e5, e6, _, _, _, _, _, _, hF => ⟨R, F, e4, e5, e6, rfl, fun k hk => hF k (Nat.zero_le _) hk, rfl⟩
  | n + 1, R, F, e4, e5, e6, h4, h5, h6, hn, hR, hP, hF => by
    have lo0 : 0 < other.length := List.length_pos_iff.mpr ho
    have ix : n + (other.length - 1) < R.length := by omega
    have val : R[n + (other.length - 1)] = other.getLast ho * Q.c n := by
      have := lowS_top ho n Q
      rw [← hP, P_c, List.getD_eq_getElem?_getD, List.getElem?_eq_getElem ix] at this
      exact this
    have lead0 : other.getLast ho ≠ 0 := to ho
    have fd : (R[n + (other.length - 1)]).fdiv (other.getLast ho) = Q.c n := by rw [val, Int.mul_fdiv_cancel_left _ lead0]
    have hnF : n < (F.set n (Q.c n)).length := by rw [List.length_set]; omega
    obtain ⟨R1, e5', e6', g1, g2, g3, g4, g5⟩ := quo_in (o := o) (p := .val (encL other)) (n := n) (v := Q.c n) (F := F.set n (Q.c n)) hnF (by simp) (bq n) hs (s := s) other 0 R e5 e6 bo h5 h6 (by omega)
    obtain ⟨R', F', e4'', e5'', e6'', k1, k2, k3⟩ := quo_loop (o := o) to ho bo bq hs (s := s) n R1 (F.set n (Q.c n)) (.val (.int n)) e5' e6' rfl g3 g4 (by rw [List.length_set]; omega) (by omega)
      (by rw [g2, hP, lowS_succ, Nat.add_zero]; grind) (fun k hk hk' => by
        rw [List.length_set] at hk'
        rw [List.getD_eq_getElem?_getD, List.getElem?_set]
        by_cases e : n = k
        · subst e
          rw [if_pos rfl, if_pos (by omega)]
          rfl
        · rw [if_neg e, ← List.getD_eq_getElem?_getD]
          exact hF k (by omega) hk')
    rw [List.length_set] at k1 k2
    refine ⟨R', F', e4'', e5'', e6'', k1, k2, ?_⟩
    have c0 : ((n + 1 : Nat) : Int) - 1 = n := by omega
    have c1 : (n : Int) + other.length - 1 = ((n + (other.length - 1) : Nat) : Int) := by omega
    have c2 := enc_at ix
    have c3 := enc_last ho
    have c4 : ixN F.length (n : Int) = some n := ix_nat (by omega)
    rw [← k3, c0, ev_rgN, ev_go]
    unfold encL at *
    have g5' := g5
    rw [List.map_set] at g5'
    simp [h4, c1, c2, c3, c4, lead0, fd, -Int.natCast_add, g5']
theorem e_quotient {one other : List Int} {Q : Ser Int} {nb nq : Nat} (t1 : Tr one) (to : Tr other) (h1 : one ≠ []) (ho : other ≠ []) (l1 : one.length ≤ 9000) (lo : other.length ≤ 9000) (pq : Pol Q) (e : P one = P other * Q) (bo : Bd nb other) (bq : Bs nq Q) (hs : nq + nb ≤ 99999999) (s : RS) :
    ∃ c, m_quotient [encL one, encL other] s = some (encL c, s) ∧ P c = Q ∧ Tr c := by
  have l10 : 0 < one.length := List.length_pos_iff.mpr h1
  have lo0 : 0 < other.length := List.length_pos_iff.mpr ho
  have q0 : Q ≠ 0 := fun z => (t1.ln h1).ne (by rw [e, z]; grind)
  obtain ⟨d, pd⟩ := pq
  obtain ⟨i, _, hi⟩ := Ln.of d pd q0
  have hd := ((to.ln ho).mulI hi)
  rw [← e] at hd
  have len : other.length - 1 + i = one.length - 1 := by
    have x1 := hd.lt (P_dg one)
    have x2 := (t1.ln h1).lt hd.2
    omega
  generalize hN : one.length - other.length + 1 = N
  have dq : Dg Q N := hi.2.mono (by omega)
  obtain ⟨R', F', e4, e5, e6, k1, k2, k3⟩ := quo_loop (o := .val (encL one)) to ho bo bq hs (s := s) N one (List.replicate N 0) .no .no .no rfl rfl rfl (by simp) (by omega) (by rw [lowS_all dq, e])
    (fun k hk hk' => by rw [List.length_replicate] at hk'; omega)
  rw [List.length_replicate] at k1 k2
  have eF : P F' = Q := serEq fun k => by
    by_cases hk : k < N
    · exact k2 k hk
    · rw [dq k (by omega), P_dg F' k (by omega)]
  obtain ⟨c, c1, c2, c3, c4, c5⟩ := e_trimmed (l := F') (by omega) (.inr rfl) s
  refine ⟨c, ?_, c2.trans eF, c3⟩
  have b1 : max 0 ((one.length : Int) - other.length + 1) = N := by omega
  have b2 : -4611686018427387904 ≤ (N : Int) := by omega
  have b3 : (N : Int) ≤ 1000000 := by omega
  have b4 : N ≤ 1000000 := by omega
  have b5 : -2305843009213693952 ≤ (N : Int) - 1 := by omega
  have b6 : (N : Int) - 1 ≤ 2305843009213693952 := by omega
  have b7 : ((N : Int) - 1 - -1).toNat = N := by omega
  unfold m_quotient g_quotient
  rw [ev_fn]
  unfold encL at *
  simp [b1, b2, b3, b4, b5, b6, b7, k3, c1, rep0, -List.map_replicate]
def encF (t b : List Int) : D := .tup [encL t, encL b]
/-- lowest terms -/
structure Can (t b : List Int) : Prop where
  tt : Tr t
  tb : Tr b
  ne : b ≠ []
  pos : 0 < b.getLast ne
  mult : ∀ t1 b1 : Ser Int, Pol t1 → Pol b1 → t1 * P b = P t * b1 → ∃ q, Pol q ∧ t1 = P t * q ∧ b1 = P b * q
theorem can_zero : Can [] [1] := ⟨fun h => absurd rfl h, fun _ => by simp, by simp, by simp, fun t1 b1 _ p h => by
  have e : P [1] = 1 := by rw [P_cons, P_nil, C_one]; grind
  rw [e, P_nil] at h
  refine ⟨b1, p, ?_, ?_⟩
  · rw [P_nil]; grind
  · rw [e]; grind⟩
theorem e_made {top bot : List Int} {x L : Nat} (tt : Tr top) (tb : Tr bot) (hb : bot ≠ []) (lt : top.length ≤ L) (lb : bot.length ≤ L) (hL : L ≤ 9000) (hL2 : L ≤ 2 ^ x) (bt : Bd x top) (bb : Bd x bot)
    (hc : (top.length + 1 - bot.length + 1) * (x + 2) * 3 ^ (bot.length - 1) ≤ 99999000) (hs : 2 * (x + L * (2 * x + 5)) ≤ 99999999) (s : RS) :
    ∃ t b, m_made [encL top, encL bot] s = some (encF t b, s) ∧ Can t b ∧ P t * P bot = P top * P b := by
  by_cases ht : top = []
  · subst ht
    refine ⟨[], [1], ?_, can_zero, by rw [P_nil]; grind⟩
    unfold m_made g_made
    rw [ev_fn]
    have := eq_nil []
    simp at this
    unfold encF encL
    simp [this, d_ZERO]
  obtain ⟨g, g1, g2, g3, g4, g5, g6⟩ := e_common ht hb tt tb (by omega) (by omega) bt bb hc s
  obtain ⟨T, B, u, v, k, hk, pT, pB, pu, pv, eT, eB, euv⟩ := lowest g6 g5 (g3.ln g2).ne
  have n1 := (tt.ln ht).ne
  have n2 := (tb.ln hb).ne
  obtain ⟨fg1, fg2⟩ := factor_bound eT.symm (P_pol g) pT n1 bt.ser ((P_dg top).mono lt) hL2
  obtain ⟨_, fT⟩ := factor_bound (show T * P g = P top by rw [eT]; grind) pT (P_pol g) n1 bt.ser ((P_dg top).mono lt) hL2
  obtain ⟨_, fB⟩ := factor_bound (show B * P g = P bot by rw [eB]; grind) pB (P_pol g) n2 bb.ser ((P_dg bot).mono lb) hL2
  obtain ⟨T0, t1, t2, t3⟩ := e_quotient tt g3 ht g2 (by omega) g4 pT eT fg2.list fT (by omega) s
  obtain ⟨B0, b1, b2, b3⟩ := e_quotient tb g3 hb g2 (by omega) g4 pB eB fg2.list fB (by omega) s
  have hB0 : B0 ≠ [] := fun z => by
    rw [← b2, z, P_nil] at eB
    exact n2 (by rw [eB]; grind)
  have lT : T0.length ≤ L := t3.le (by rw [t2]; exact (factor_bound (show T * P g = P top by rw [eT]; grind) pT (P_pol g) n1 bt.ser ((P_dg top).mono lt) hL2).1)
  have lB : B0.length ≤ L := b3.le (by rw [b2]; exact (factor_bound (show B * P g = P bot by rw [eB]; grind) pB (P_pol g) n2 bb.ser ((P_dg bot).mono lb) hL2).1)
  have c0 : ct B0 ≠ 0 := ct_ne b3 hB0
  have f0 : 0 < Nat.gcd (ct T0) (ct B0) := Nat.gcd_pos_of_pos_right _ (by omega)
  generalize hf : (if B0.getLast hB0 < 0 then -((Nat.gcd (ct T0) (ct B0) : Nat) : Int) else ((Nat.gcd (ct T0) (ct B0) : Nat) : Int)) = f
  have fn : f.natAbs = Nat.gcd (ct T0) (ct B0) := by rw [← hf]; split <;> omega
  have fne : f ≠ 0 := by omega
  have dT : ∀ y ∈ T0, f ∣ y := fun y hy => Int.natAbs_dvd.mp (by rw [fn]; exact Int.dvd_trans (Int.ofNat_dvd.mpr (Nat.gcd_dvd_left _ _)) (ct_dvd T0 y hy))
  have dB : ∀ y ∈ B0, f ∣ y := fun y hy => Int.natAbs_dvd.mp (by rw [fn]; exact Int.dvd_trans (Int.ofNat_dvd.mpr (Nat.gcd_dvd_right _ _)) (ct_dvd B0 y hy))
  have DT := divd fne dT
  have DB := divd fne dB
  generalize ht' : (T0.map fun x => x.fdiv f) = t' at DT
  generalize hb' : (B0.map fun x => x.fdiv f) = b' at DB
  have hbn : b' ≠ [] := fun z => hB0 (List.length_eq_zero_iff.mp (by rw [← DB.len, z]; rfl))
  have ju : ∀ d, Cd d (P t') → Cd d (P b') → d ∣ 1 := fun d h1 h2 => by
    have k1 : f * d ∣ ((ct T0 : Nat) : Int) := ct_max T0 (cd_list.mp fun n => by rw [DT.ser, C_mul]; exact Int.mul_dvd_mul_left f (h1 n))
    have k2 : f * d ∣ ((ct B0 : Nat) : Int) := ct_max B0 (cd_list.mp fun n => by rw [DB.ser, C_mul]; exact Int.mul_dvd_mul_left f (h2 n))
    have k3 : (f * d).natAbs ∣ Nat.gcd (ct T0) (ct B0) := Nat.dvd_gcd (by simpa using Int.natAbs_dvd_natAbs.mpr k1) (by simpa using Int.natAbs_dvd_natAbs.mpr k2)
    rw [← fn] at k3
    have k4 : f * d ∣ f * 1 := by rw [Int.mul_one]; exact Int.natAbs_dvd_natAbs.mp k3
    exact Int.dvd_of_mul_dvd_mul_left fne k4
  refine ⟨t', b', ?_, ⟨DT.tr t3, DB.tr b3, hbn, ?_, fun x1 y1 p1 p2 hx => ?_⟩, ?_⟩
  · have z1 : T0.length ≤ 1000000 := by omega
    have z2 : B0.length ≤ 1000000 := by omega
    have c1 := eq_nil top
    have c2 := e_content T0 s
    have c3 := e_content B0 s
    have c4 := enc_last hB0
    unfold m_made g_made
    rw [ev_fn]
    unfold encF encL at *
    by_cases hneg : B0.getLast hB0 < 0
    · rw [if_pos hneg] at hf
      have lc1 := lc_fdiv (l := T0) fne (i := 3) (j := 4) (env := [.val (.tup (T0.map .int)), .val (.tup (B0.map .int)), .val (.tup (g.map .int)), .val (.int f), .no]) (s := s) (by simp) rfl (by decide) rfl
      have lc2 := lc_fdiv (l := B0) fne (i := 3) (j := 4) (env := [.val (.tup (T0.map .int)), .val (.tup (B0.map .int)), .val (.tup (g.map .int)), .val (.int f), .no]) (s := s) (by simp) rfl (by decide) rfl
      rw [ht'] at lc1
      rw [hb'] at lc2
      simp [c1, ht, g1, t1, b1, c2, c3, c4, hneg, hf, z1, z2, lc1, lc2]
    · rw [if_neg hneg] at hf
      have lc1 := lc_fdiv (l := T0) fne (i := 3) (j := 4) (env := [.val (.tup (T0.map .int)), .val (.tup (B0.map .int)), .val (.tup (g.map .int)), .val (.int f), .no]) (s := s) (by simp) rfl (by decide) rfl
      have lc2 := lc_fdiv (l := B0) fne (i := 3) (j := 4) (env := [.val (.tup (T0.map .int)), .val (.tup (B0.map .int)), .val (.tup (g.map .int)), .val (.int f), .no]) (s := s) (by simp) rfl (by decide) rfl
      rw [ht'] at lc1
      rw [hb'] at lc2
      simp [c1, ht, g1, t1, b1, c2, c3, c4, hneg, hf, z1, z2, lc1, lc2]
  · have hl := DB.last hB0 hbn
    have l0 : B0.getLast hB0 ≠ 0 := b3 hB0
    by_cases hneg : B0.getLast hB0 < 0
    · rw [if_pos hneg] at hf
      refine Classical.byContradiction fun q => ?_
      have : 0 ≤ f * b'.getLast hbn := Int.mul_nonneg_of_nonpos_of_nonpos (by omega) (by omega)
      omega
    · rw [if_neg hneg] at hf
      refine Classical.byContradiction fun q => ?_
      have : f * b'.getLast hbn ≤ 0 := Int.mul_nonpos_of_nonneg_of_nonpos (by omega) (by omega)
      omega
  · refine multiple hk pu pv euv (f := f) (t' := P t') (b' := P b') (by rw [← t2, DT.ser]) (by rw [← b2, DB.ser]) ju p1 p2 ?_
    rw [← t2, ← b2, DT.ser, DB.ser]
    grind
  · rw [eT, eB, ← t2, ← b2, DT.ser, DB.ser]
    grind
end W

namespace W
open DL MS L2
/-! rational functions: t / b in lowest terms, N / D any form -/
structure FR (t b : List Int) (N D : Ser Int) : Prop where
  can : Can t b
  eq : P t * D = N * P b
  ne : D ≠ 0
/-- sizes of a form -/
structure EX (x L : Nat) (N D : Ser Int) : Prop where
  bn : Bs x N
  bd : Bs x D
  ln : Dg N L
  ld : Dg D L
def y0 (x L : Nat) : Nat := x + L * (2 * x + 5)
structure Room (x L : Nat) : Prop where
  r1 : 2 * 3 ^ (2 * L - 2) * (2 * y0 x L + L + 3) ≤ 99999000
  r2 : 2 * L ≤ 2 ^ x
  r3 : 2 * (2 * y0 x L + L + 1 + 2 * L * (2 * (2 * y0 x L + L + 1) + 5)) ≤ 99999999
  r4 : 1 ≤ L
  r5 : L ≤ 4000
theorem Can.pne {t b : List Int} (h : Can t b) : P b ≠ 0 := (h.tb.ln h.ne).ne
theorem FR.form {t b : List Int} {N D N' D' : Ser Int} (h : FR t b N D) (h0 : D' ≠ 0) (e : N' * D = N * D') : FR t b N' D' :=
  ⟨h.can, cancelI h.ne (by have := h.eq; grind), h0⟩
theorem FR.bd {t b : List Int} {N D : Ser Int} {x L : Nat} (h : FR t b N D) (E : EX x L N D) (R : Room x L) : Bd (y0 x L) t ∧ Bd (y0 x L) b ∧ t.length ≤ L ∧ b.length ≤ L := by
  have hL2 : L ≤ 2 ^ x := by have := R.r2; omega
  obtain ⟨d, pn⟩ : Pol N := ⟨_, E.ln⟩
  obtain ⟨d', pd⟩ : Pol D := ⟨_, E.ld⟩
  obtain ⟨q, pq, e1, e2⟩ := h.can.mult N D ⟨d, pn⟩ ⟨d', pd⟩ h.eq.symm
  have q0 : q ≠ 0 := fun z => h.ne (by rw [e2, z]; grind)
  obtain ⟨f1, f2⟩ := factor_bound e2.symm (P_pol b) pq h.ne E.bd E.ld hL2
  have lb := h.can.tb.le f1
  by_cases hN : N = 0
  · have : t = [] := h.can.tt.nil (by
      rw [hN] at e1
      rcases mul_zeroI e1.symm with z | z
      · exact z
      · exact absurd z q0)
    subst this
    exact ⟨fun y hy => by simp at hy, f2.list, by simp, lb⟩
  · obtain ⟨g1, g2⟩ := factor_bound e1.symm (P_pol t) pq hN E.bn E.ln hL2
    exact ⟨g2.list, f2.list, h.can.tt.le g1, lb⟩
theorem three2 (d : Nat) : d + 2 ≤ 2 * 3 ^ d := by
  induction d with
  | zero => decide
  | succ d ih => rw [Nat.pow_succ]; omega
theorem room_cond {x L a b : Nat} (R : Room x L) (ha : a ≤ 2 * L - 1) (hb : b ≤ 2 * L - 1) (h1 : 1 ≤ b) : (a + 1 - b + 1) * (2 * y0 x L + L + 1 + 2) * 3 ^ (b - 1) ≤ 99999000 := by
  refine Nat.le_trans ?_ R.r1
  have t := three2 (2 * L - 1 - b)
  have h : a + 1 - b + 1 ≤ 2 * 3 ^ (2 * L - 1 - b) := by omega
  have e : 3 ^ (2 * L - 2) = 3 ^ (2 * L - 1 - b) * 3 ^ (b - 1) := by
    rw [← Nat.pow_add]
    congr 1
    omega
  rw [e]
  have h2 := Nat.mul_le_mul_right (3 ^ (b - 1)) (Nat.mul_le_mul_right (2 * y0 x L + L + 1 + 2) h)
  refine Nat.le_trans h2 (Nat.le_of_eq ?_)
  grind
theorem mul_neI {f g : Ser Int} (hf : f ≠ 0) (hg : g ≠ 0) : f * g ≠ 0 := fun z => by
  rcases mul_zeroI z with z | z
  · exact hf z
  · exact hg z
/-- made, of two lists that are not too long -/
theorem e_made' {top bot : List Int} {x L : Nat} (R : Room x L) (tt : Tr top) (tb : Tr bot) (hb : bot ≠ []) (lt : top.length ≤ 2 * L - 1) (lb : bot.length ≤ 2 * L - 1) (bt : Bd (2 * y0 x L + L + 1) top) (bb : Bd (2 * y0 x L + L + 1) bot) (s : RS) :
    ∃ t b, m_made [encL top, encL bot] s = some (encF t b, s) ∧ FR t b (P top) (P bot) := by
  have l0 : 1 ≤ bot.length := List.length_pos_iff.mpr hb
  have r5 := R.r5
  have r3 := R.r3
  obtain ⟨t, b, h1, h2, h3⟩ := e_made (L := 2 * L) tt tb hb (by omega) (by omega) (by omega) (Nat.le_trans R.r2 (Nat.pow_le_pow_right (by decide) (by unfold y0; omega))) bt bb (room_cond R lt lb l0) r3 s
  exact ⟨t, b, h1, h2, h3, (tb.ln hb).ne⟩
section
variable {t b t' b' : List Int} {N D N' D' : Ser Int} {x L : Nat}
theorem e_times_of (R : Room x L) (h : FR t b N D) (E : EX x L N D) (h' : FR t' b' N' D') (E' : EX x L N' D') (s : RS) : ∃ u v, m_times_of [encF t b, encF t' b'] s = some (encF u v, s) ∧ FR u v (N * N') (D * D') := by
  obtain ⟨a1, a2, a3, a4⟩ := h.bd E R
  obtain ⟨c1, c2, c3, c4⟩ := h'.bd E' R
  have r5 := R.r5
  have r3 := R.r3
  obtain ⟨p, p1, p2, p3, p4, p5⟩ := e_poly_times h.can.tt h'.can.tt (by omega) (by omega) a1 c1 (by omega) s
  obtain ⟨q, q1, q2, q3, q4, q5⟩ := e_poly_times h.can.tb h'.can.tb (by omega) (by omega) a2 c2 (by omega) s
  have hq : q ≠ [] := fun z => by
    rw [z, P_nil] at q2
    exact mul_neI h.can.pne h'.can.pne q2.symm
  have r4 := R.r4
  obtain ⟨u, v, m1, m2⟩ := e_made' R p3 q3 hq (by omega) (by omega) (p5.mono (by omega)) (q5.mono (by omega)) s
  refine ⟨u, v, ?_, m2.form (mul_neI h.ne h'.ne) ?_⟩
  · unfold m_times_of g_times_of
    rw [ev_fn]
    unfold encF encL at *
    simp [p1, q1, m1]
  · rw [p2, q2]
    have := h.eq
    have := h'.eq
    grind
theorem e_back_of (R : Room x L) (h : FR t b N D) (E : EX x L N D) (hN : N ≠ 0) (s : RS) : ∃ u v, m_back_of [encF t b] s = some (encF u v, s) ∧ FR u v D N := by
  obtain ⟨a1, a2, a3, a4⟩ := h.bd E R
  have ht : t ≠ [] := fun z => by
    have := h.eq
    rw [z, P_nil] at this
    exact mul_neI hN h.can.pne (by rw [← this]; grind)
  have r4 := R.r4
  obtain ⟨u, v, m1, m2⟩ := e_made' R h.can.tb h.can.tt ht (by omega) (by omega) (a2.mono (by omega)) (a1.mono (by omega)) s
  refine ⟨u, v, ?_, m2.form hN ?_⟩
  · unfold m_back_of g_back_of
    rw [ev_fn]
    unfold encF encL at *
    simp [m1]
  · have := h.eq
    grind
theorem e_plus_of (R : Room x L) (h : FR t b N D) (E : EX x L N D) (h' : FR t' b' N' D') (E' : EX x L N' D') (s : RS) : ∃ u v, m_plus_of [encF t b, encF t' b'] s = some (encF u v, s) ∧ FR u v (N * D' + N' * D) (D * D') := by
  obtain ⟨a1, a2, a3, a4⟩ := h.bd E R
  obtain ⟨c1, c2, c3, c4⟩ := h'.bd E' R
  have r5 := R.r5
  have r3 := R.r3
  have r4 := R.r4
  obtain ⟨p, p1, p2, p3, p4, p5⟩ := e_poly_times h.can.tt h'.can.tb (by omega) (by omega) a1 c2 (by omega) s
  obtain ⟨r, w1, w2, w3, w4, w5⟩ := e_poly_times h'.can.tt h.can.tb (by omega) (by omega) c1 a2 (by omega) s
  obtain ⟨q, q1, q2, q3, q4, q5⟩ := e_poly_times h.can.tb h'.can.tb (by omega) (by omega) a2 c2 (by omega) s
  obtain ⟨u0, z1, z2, z3, z4, z5⟩ := e_poly_plus (a := p) (b := r) (by omega) (by omega) s
  have hq : q ≠ [] := fun z => by
    rw [z, P_nil] at q2
    exact mul_neI h.can.pne h'.can.pne q2.symm
  have big := z5 (2 * y0 x L + L) (p5.mono (by omega)) (w5.mono (by omega))
  obtain ⟨u, v, m1, m2⟩ := e_made' R z3 q3 hq (by omega) (by omega) big (q5.mono (by omega)) s
  refine ⟨u, v, ?_, m2.form (mul_neI h.ne h'.ne) ?_⟩
  · unfold m_plus_of g_plus_of
    rw [ev_fn]
    unfold encF encL at *
    simp [p1, w1, q1, z1, m1]
  · rw [z2, p2, w2, q2]
    have := h.eq
    have := h'.eq
    grind
theorem e_over_of (R : Room x L) (h : FR t b N D) (E : EX x L N D) (h' : FR t' b' N' D') (E' : EX x L N' D') (hN : N' ≠ 0) (s : RS) : ∃ u v, m_over_of [encF t b, encF t' b'] s = some (encF u v, s) ∧ FR u v (N * D') (D * N') := by
  obtain ⟨u0, v0, m1, m2⟩ := e_back_of R h' E' hN s
  obtain ⟨u, v, k1, k2⟩ := e_times_of R h E m2 ⟨E'.bd, E'.bn, E'.ld, E'.ln⟩ s
  refine ⟨u, v, ?_, k2⟩
  unfold m_over_of g_over_of
  rw [ev_fn]
  unfold encF at *
  simp [m1, k1]
end
end W

/-! series of fractions: echoes of layers -/
namespace MS
open Lean.Grind
def sm (f : Nat → Rat) : Nat → Rat
  | 0 => 0
  | n + 1 => sm f n + f n
theorem sm_succ (f : Nat → Rat) (n : Nat) : sm f (n + 1) = sm f n + f n := rfl
theorem sm_shift (f : Nat → Rat) : ∀ n, sm f (n + 1) = f 0 + sm (fun i => f (i + 1)) n
  | 0 => by simp only [sm]; grind
  | n + 1 => by rw [sm, sm_shift f n, sm]; grind
theorem sm_congr {f g : Nat → Rat} : ∀ n, (∀ i, i < n → f i = g i) → sm f n = sm g n
  | 0, _ => rfl
  | n + 1, h => by rw [sm, sm, sm_congr n fun i hi => h i (by omega), h n (by omega)]
theorem mulc_sm (g : Nat → Rat) : ∀ (n : Nat) (f : Nat → Rat), mulc f g n = sm (fun q => f q * g (n - q)) (n + 1)
  | 0, f => by rw [mulc_zero, sm, sm]; grind
  | n + 1, f => by
    rw [mulc_succ, sm_shift, mulc_sm g n]
    congr 1
    exact sm_congr _ fun i hi => by rw [show n + 1 - (i + 1) = n - i by omega]
theorem mulc_congr {g h : Nat → Rat} : ∀ (n : Nat) (f : Nat → Rat), (∀ i, i ≤ n → g i = h i) → mulc f g n = mulc f h n
  | 0, f, e => by rw [mulc_zero, mulc_zero, e 0 (by omega)]
  | n + 1, f, e => by rw [mulc_succ, mulc_succ, e (n + 1) (by omega), mulc_congr n _ fun i hi => e i (by omega)]
/-! 1 / (1 + X g) -/
def neu (g : Ser Rat) : Nat → Ser Rat
  | 0 => 1
  | n + 1 => 1 - X * (g * neu g n)
theorem neu_c (g : Ser Rat) : ∀ (n m : Nat), n ≤ m → (neu g m).c n = (neu g n).c n
  | 0, 0, _ => rfl
  | 0, m + 1, _ => by
    show (1 - X * (g * neu g m)).c 0 = (1 : Ser Rat).c 0
    rw [sub_c, X_mul0]
    grind
  | n + 1, 0, h => by omega
  | n + 1, m + 1, h => by
    show (1 - X * (g * neu g m)).c (n + 1) = (1 - X * (g * neu g n)).c (n + 1)
    rw [sub_c, X_mul, sub_c, X_mul, mul_c, mul_c]
    rw [mulc_congr n g.c fun i hi => (neu_c g i m (by omega)).trans (neu_c g i n hi).symm]
def inv1 (g : Ser Rat) : Ser Rat := ⟨fun n => (neu g n).c n⟩
theorem inv1_eq (g : Ser Rat) : (1 + X * g) * inv1 g = 1 := by
  have h : inv1 g = 1 - X * (g * inv1 g) := serEq fun n => by
    cases n with
    | zero => rw [sub_c, X_mul0]; show (neu g 0).c 0 = _; rw [neu]; grind
    | succ n =>
      rw [sub_c, X_mul, mul_c]
      show (neu g (n + 1)).c (n + 1) = _
      rw [neu, sub_c, X_mul, mul_c]
      rw [mulc_congr n g.c fun i hi => (neu_c g i n hi)]
      rfl
  grind
/-- a layer with the contrast k in front of one whose echo is F -/
def bef (k : Rat) (F : Ser Rat) : Ser Rat := (C k + X * F) * inv1 (C k * F)
theorem bef_eq (k : Rat) (F : Ser Rat) : bef k F * (1 + C k * (X * F)) = C k + X * F := by
  have := inv1_eq (C k * F)
  unfold bef
  grind
theorem bef_zero (k : Rat) : bef k 0 = C k := by
  have := bef_eq k 0
  grind
/-! sums of squares -/
def sq (f : Ser Rat) (m : Nat) : Rat := sm (fun n => f.c n * f.c n) m
theorem sq_nn (f : Ser Rat) : ∀ m, 0 ≤ sq f m
  | 0 => by show (0 : Rat) ≤ 0; exact Rat.le_refl
  | m + 1 => by
    have := sq_nn f m
    have h : 0 ≤ f.c m * f.c m := by
      rcases Rat.le_total (a := 0) (b := f.c m) with h | h
      · exact Rat.mul_nonneg h h
      · have : 0 ≤ (-f.c m) * (-f.c m) := Rat.mul_nonneg (by grind) (by grind)
        grind
    show 0 ≤ sq f m + f.c m * f.c m
    grind
theorem sq_mono {f : Ser Rat} (m : Nat) : sq f m ≤ sq f (m + 1) := by
  have h : 0 ≤ f.c m * f.c m := by
    rcases Rat.le_total (a := 0) (b := f.c m) with h | h
    · exact Rat.mul_nonneg h h
    · have : 0 ≤ (-f.c m) * (-f.c m) := Rat.mul_nonneg (by grind) (by grind)
      grind
  show sq f m ≤ sq f m + f.c m * f.c m
  grind
theorem sq_X (f : Ser Rat) (m : Nat) : sq (X * f) m ≤ sq f m := by
  cases m with
  | zero => exact Rat.le_refl
  | succ m =>
    have : sq (X * f) (m + 1) = sq f m := by
      unfold sq
      rw [sm_shift, X_mul0]
      have : sm (fun i => (X * f).c (i + 1) * (X * f).c (i + 1)) m = sm (fun n => f.c n * f.c n) m := sm_congr m fun i _ => by rw [X_mul]
      rw [this]; grind
    rw [this]
    exact sq_mono m
def Ct (F : Ser Rat) : Prop := ∀ d m, sq (F * d) m ≤ sq d m
theorem Ct.zero : Ct 0 := fun d m => by
  rw [show (0 : Ser Rat) * d = 0 by grind]
  have : sq (0 : Ser Rat) m = 0 := by
    have : ∀ m, sm (fun n => (0 : Ser Rat).c n * (0 : Ser Rat).c n) m = 0 := fun m => by
      induction m with
      | zero => rfl
      | succ m ih => rw [sm, ih, zero_c]; grind
    exact this m
  rw [this]
  exact sq_nn d m
theorem energy (k : Rat) {g a d v : Ser Rat} (h1 : g = C k * a + C (1 - k * k) * v) (h2 : d = a - C k * v) : ∀ m, sq g m + (1 - k * k) * sq d m = sq a m + (1 - k * k) * sq v m
  | 0 => by show (0 : Rat) + _ * 0 = 0 + _ * 0; grind
  | m + 1 => by
    have ih := energy k h1 h2 m
    have e1 : g.c m = k * a.c m + (1 - k * k) * v.c m := by rw [h1, add_c, C_mul, C_mul]
    have e2 : d.c m = a.c m - k * v.c m := by rw [h2, sub_c, C_mul]
    show sq g m + g.c m * g.c m + (1 - k * k) * (sq d m + d.c m * d.c m) = sq a m + a.c m * a.c m + (1 - k * k) * (sq v m + v.c m * v.c m)
    rw [e1, e2]
    grind
theorem Ct.bef {k : Rat} {F : Ser Rat} (h : Ct F) (h1 : -1 ≤ k) (h2 : k ≤ 1) : Ct (bef k F) := fun a m => by
  have hi := inv1_eq (C k * F)
  generalize hd : inv1 (C k * F) * a = d
  have e1 : (1 + C k * (X * F)) * d = a := by rw [← hd]; grind
  have e2 : MS.bef k F * a = (C k + X * F) * d := by rw [← hd]; unfold MS.bef; grind
  have e3 : C (1 - k * k) = (1 : Ser Rat) - C k * C k := by rw [C_mulC, ← C_one, show (1 : Rat) - k * k = 1 + -(k * k) by grind, ← C_add, C_neg]; grind
  have en := energy k (g := MS.bef k F * a) (a := a) (d := d) (v := X * (F * d)) (by rw [e2, e3]; grind) (by grind) m
  have c1 := Rat.le_trans (sq_X (F * d) m) (h d m)
  have kk : 0 ≤ 1 - k * k := by
    have : 0 ≤ (1 - k) * (1 + k) := Rat.mul_nonneg (by grind) (by grind)
    grind
  have c2 : (1 - k * k) * sq (X * (F * d)) m ≤ (1 - k * k) * sq d m := Rat.mul_le_mul_of_nonneg_left c1 kk
  grind
theorem Ct.sum {F : Ser Rat} (h : Ct F) (m : Nat) : sq F m ≤ 1 := by
  have := h 1 m
  rw [show F * 1 = F by grind] at this
  have e : sq 1 m ≤ 1 := by
    cases m with
    | zero => show (0 : Rat) ≤ 1; grind
    | succ m =>
      have : sm (fun i => (1 : Ser Rat).c (i + 1) * (1 : Ser Rat).c (i + 1)) m = 0 := by
        have : ∀ m, sm (fun i => (1 : Ser Rat).c (i + 1) * (1 : Ser Rat).c (i + 1)) m = 0 := fun m => by
          induction m with
          | zero => rfl
          | succ m ih => rw [sm, ih, one_c, if_neg (by omega)]; grind
        exact this m
      unfold sq
      rw [sm_shift, this, one_c, if_pos rfl]
      grind
  exact Rat.le_trans this e
theorem Ct.one {F : Ser Rat} (h : Ct F) (n : Nat) : -1 ≤ F.c n ∧ F.c n ≤ 1 := by
  have h1 := h.sum (n + 1)
  have h2 := sq_nn F n
  have h3 : sq F (n + 1) = sq F n + F.c n * F.c n := rfl
  have h4 : F.c n * F.c n ≤ 1 := by grind
  constructor
  · refine Rat.not_lt.mp fun z => ?_
    have : 0 < (-1 - F.c n) * (1 - F.c n) := Rat.mul_pos (by grind) (by grind)
    grind
  · refine Rat.not_lt.mp fun z => ?_
    have : 0 < (F.c n - 1) * (F.c n + 1) := Rat.mul_pos (by grind) (by grind)
    grind
/-! whole multiples -/
def Dn (M : Nat) (x : Rat) : Prop := ∃ z : Int, x * ((M : Int) : Rat) = (z : Rat)
theorem Dn.add {M : Nat} {x y : Rat} (h : Dn M x) (h' : Dn M y) : Dn M (x + y) := by
  obtain ⟨a, ha⟩ := h
  obtain ⟨b, hb⟩ := h'
  exact ⟨a + b, by rw [Rat.intCast_add, ← ha, ← hb]; grind⟩
theorem Dn.sub {M : Nat} {x y : Rat} (h : Dn M x) (h' : Dn M y) : Dn M (x - y) := by
  obtain ⟨a, ha⟩ := h
  obtain ⟨b, hb⟩ := h'
  exact ⟨a - b, by rw [Rat.intCast_sub, ← ha, ← hb]; grind⟩
theorem Dn.mul {M M' : Nat} {x y : Rat} (h : Dn M x) (h' : Dn M' y) : Dn (M * M') (x * y) := by
  obtain ⟨a, ha⟩ := h
  obtain ⟨b, hb⟩ := h'
  exact ⟨a * b, by rw [Rat.intCast_mul, ← ha, ← hb, Int.natCast_mul, Rat.intCast_mul]; grind⟩
theorem Dn.up {M T : Nat} {x : Rat} (h : Dn M x) (hd : M ∣ T) : Dn T x := by
  obtain ⟨t, rfl⟩ := hd
  obtain ⟨a, ha⟩ := h
  exact ⟨a * t, by rw [Rat.intCast_mul, ← ha, Int.natCast_mul, Rat.intCast_mul]; grind⟩
theorem Dn.int {M : Nat} (z : Int) : Dn M (z : Rat) := ⟨z * M, by rw [Rat.intCast_mul]⟩
theorem Dn.self (x : Rat) : Dn x.den x := ⟨x.num, by
  have h : x = (x.num : Rat) / ((x.den : Int) : Rat) := by rw [← Rat.divInt_eq_div, Rat.num_divInt_den]
  have d : ((x.den : Int) : Rat) ≠ 0 := fun z => by
    have := Rat.intCast_eq_zero_iff.mp z
    have := x.den_nz
    omega
  generalize (x.num : Rat) = p at *
  generalize ((x.den : Int) : Rat) = q at *
  subst h
  grind⟩
theorem Dn.den {M : Nat} {x : Rat} (h : Dn M x) (hM : M ≠ 0) : x.den ∣ M := by
  obtain ⟨z, hz⟩ := h
  have d : ((M : Int) : Rat) ≠ 0 := fun e => by
    have := Rat.intCast_eq_zero_iff.mp e
    omega
  have e : x = Rat.divInt z M := by
    rw [Rat.divInt_eq_div, ← hz]
    grind
  rw [e, Rat.den_divInt, if_neg (by omega)]
  exact Nat.div_dvd_of_dvd (Nat.gcd_dvd_left _ _)
/-- between -B and B -/
def Ab (B : Nat) (x : Rat) : Prop := -((B : Int) : Rat) ≤ x ∧ x ≤ ((B : Int) : Rat)
theorem Ab.mul {x y : Rat} (hx : Ab 1 x) (hy : Ab 1 y) : Ab 1 (x * y) := by
  obtain ⟨a1, a2⟩ := hx
  obtain ⟨b1, b2⟩ := hy
  have e : (((1 : Nat) : Int) : Rat) = 1 := rfl
  rw [e] at a1 a2 b1 b2
  show -(((1 : Nat) : Int) : Rat) ≤ x * y ∧ x * y ≤ (((1 : Nat) : Int) : Rat)
  rw [e]
  constructor
  · have h1 : 0 ≤ (1 + x) * (1 + y) := Rat.mul_nonneg (by grind) (by grind)
    have h2 : 0 ≤ (1 - x) * (1 - y) := Rat.mul_nonneg (by grind) (by grind)
    grind
  · have h1 : 0 ≤ (1 + x) * (1 - y) := Rat.mul_nonneg (by grind) (by grind)
    have h2 : 0 ≤ (1 - x) * (1 + y) := Rat.mul_nonneg (by grind) (by grind)
    grind
theorem Ab.sub {x y : Rat} {m n : Nat} (hx : Ab m x) (hy : Ab n y) : Ab (m + n) (x - y) := by
  obtain ⟨a1, a2⟩ := hx
  obtain ⟨b1, b2⟩ := hy
  have e : (((m + n : Nat) : Int) : Rat) = ((m : Int) : Rat) + ((n : Int) : Rat) := by rw [Int.natCast_add, Rat.intCast_add]
  constructor <;> rw [e] <;> grind
theorem Ab.add {x y : Rat} {m n : Nat} (hx : Ab m x) (hy : Ab n y) : Ab (m + n) (x + y) := by
  obtain ⟨a1, a2⟩ := hx
  obtain ⟨b1, b2⟩ := hy
  have e : (((m + n : Nat) : Int) : Rat) = ((m : Int) : Rat) + ((n : Int) : Rat) := by rw [Int.natCast_add, Rat.intCast_add]
  constructor <;> rw [e] <;> grind
theorem Ab.mono {x : Rat} {m n : Nat} (hx : Ab m x) (h : m ≤ n) : Ab n x := by
  obtain ⟨a1, a2⟩ := hx
  have e : ((m : Int) : Rat) ≤ ((n : Int) : Rat) := Rat.intCast_le_intCast.mpr (by omega)
  constructor <;> grind
theorem Ab.zero {n : Nat} : Ab n 0 := by
  have e : ((0 : Int) : Rat) ≤ ((n : Int) : Rat) := Rat.intCast_le_intCast.mpr (by omega)
  have e0 : ((0 : Int) : Rat) = 0 := rfl
  constructor <;> grind
theorem Ab.num {x : Rat} {B : Nat} (h : Ab B x) : x.num.natAbs ≤ B * x.den := by
  have h2 := (Rat.le_iff x ((B : Int) : Rat)).mp h.2
  have e : -((B : Int) : Rat) = ((-(B : Int) : Int) : Rat) := (Rat.intCast_neg _).symm
  have h1 := (Rat.le_iff ((-(B : Int) : Int) : Rat) x).mp (e ▸ h.1)
  rw [Rat.num_intCast, Rat.den_intCast] at h1 h2
  have h3 : -((B : Int) * x.den) ≤ x.num := by rw [← Int.neg_mul]; simpa using h1
  have h4 : x.num ≤ (B : Int) * x.den := by simpa using h2
  rw [show (B : Int) * x.den = ((B * x.den : Nat) : Int) by push_cast; rfl] at h3 h4
  omega
/-- size, from a whole multiple and a bound -/
theorem size_of {x : Rat} {M B a b : Nat} (h : Dn M x) (hM : M ≠ 0) (hM2 : M < 2 ^ a) (hB : Ab B x) (hB2 : B < 2 ^ b) : Sz (a + b) x.num ∧ Sz (a + b) x.den := by
  have h1 := Nat.le_of_dvd (by omega) (h.den hM)
  have h2 := hB.num
  have b1 : 1 ≤ 2 ^ b := Nat.one_le_two_pow
  have a1 : 1 ≤ 2 ^ a := Nat.one_le_two_pow
  constructor
  · unfold Sz
    rw [Nat.pow_add, Nat.mul_comm]
    refine Nat.lt_of_le_of_lt h2 (Nat.mul_lt_mul'' hB2 (by omega))
  · unfold Sz
    rw [Nat.pow_add, Int.natAbs_natCast]
    have := Nat.mul_le_mul_left (2 ^ a) b1
    omega
/-! the walk of a layer, place by place -/
def part (k : Rat) (F G : Ser Rat) (a : Nat) : Nat → Rat
  | 0 => (C k + X * F).c a
  | p + 1 => part k F G a p - k * (X * F).c (p + 1) * G.c (a - (p + 1))
theorem part_sum (k : Rat) (F G : Ser Rat) (a : Nat) : ∀ p, part k F G a p = (C k + X * F).c a - sm (fun q => (C k * (X * F)).c q * G.c (a - q)) (p + 1)
  | 0 => by
    rw [part, sm, sm, C_mul, X_mul0]
    grind
  | p + 1 => by
    rw [part, part_sum k F G a p, sm_succ (n := p + 1), C_mul]
    grind
theorem part_end {k : Rat} {F G : Ser Rat} (h : G * (1 + C k * (X * F)) = C k + X * F) (a : Nat) : part k F G a a = G.c a := by
  have e : C k + X * F = G + (C k * (X * F)) * G := by rw [← h]; grind
  rw [part_sum, ← mulc_sm, e, add_c, mul_c]
  grind
theorem XF_c (F : Ser Rat) (n : Nat) : (X * F).c n = if n = 0 then 0 else F.c (n - 1) := by
  cases n with
  | zero => rw [X_mul0, if_pos rfl]
  | succ n => rw [X_mul, if_neg (by omega)]; rfl
theorem ab_XF {F : Ser Rat} (hF : ∀ n, Ab 1 (F.c n)) (n : Nat) : Ab 1 ((X * F).c n) := by
  rw [XF_c]
  split
  · exact Ab.zero
  · exact hF _
theorem ab_CXF {k : Rat} {F : Ser Rat} (hk : Ab 1 k) (hF : ∀ n, Ab 1 (F.c n)) (n : Nat) : Ab 1 ((C k + X * F).c n) := by
  rw [add_c, C_c, XF_c]
  by_cases h : n = 0
  · rw [if_pos h, if_pos h, show k + 0 = k by grind]; exact hk
  · rw [if_neg h, if_neg h, show 0 + F.c (n - 1) = F.c (n - 1) by grind]; exact hF _
theorem part_ab {k : Rat} {F G : Ser Rat} (hk : Ab 1 k) (hF : ∀ n, Ab 1 (F.c n)) (hG : ∀ n, Ab 1 (G.c n)) (a : Nat) : ∀ p, Ab (p + 1) (part k F G a p)
  | 0 => ab_CXF hk hF a
  | p + 1 => by
    rw [part]
    exact (part_ab hk hF hG a p).sub ((hk.mul (ab_XF hF _)).mul (hG _))
def Nd (N : Nat) (F : Ser Rat) : Prop := ∀ n, Dn (N ^ (n + 1)) (F.c n)
theorem Nd.zero {N : Nat} : Nd N 0 := fun n => by rw [zero_c]; exact Dn.int 0
theorem dn_XF {N : Nat} {F : Ser Rat} (h : Nd N F) (n : Nat) : Dn (N ^ n) ((X * F).c n) := by
  rw [XF_c]
  by_cases e : n = 0
  · rw [if_pos e]; exact Dn.int 0
  · rw [if_neg e]
    have := h (n - 1)
    rwa [show n - 1 + 1 = n by omega] at this
theorem pow_split {d N : Nat} {a q : Nat} (h1 : 1 ≤ q) (h2 : q ≤ a) : d * N ^ q * (d * N) ^ (a - q + 1) ∣ (d * N) ^ (a + 1) := by
  obtain ⟨r, rfl⟩ : ∃ r, q = r + 1 := ⟨q - 1, by omega⟩
  refine ⟨d ^ r, ?_⟩
  rw [show (d * N) ^ (a + 1) = (d * N) ^ (a - (r + 1) + 1) * (d * N) ^ (r + 1) by rw [← Nat.pow_add]; congr 1; omega, Nat.mul_pow d N (r + 1), Nat.pow_succ d r]
  generalize (d * N) ^ (a - (r + 1) + 1) = u
  generalize d ^ r = v
  generalize N ^ (r + 1) = w
  grind
theorem part_dn {d N : Nat} {k : Rat} {F G : Ser Rat} (hk : Dn d k) (hF : Nd N F) {a : Nat} (hG : ∀ m, m < a → Dn ((d * N) ^ (m + 1)) (G.c m)) : ∀ p, p ≤ a → Dn ((d * N) ^ (a + 1)) (part k F G a p)
  | 0, _ => by
    rw [part, add_c, C_c]
    refine Dn.add ?_ ((dn_XF hF a).up ?_)
    · split
      · exact hk.up ⟨N * (d * N) ^ a, by rw [Nat.pow_succ]; generalize (d * N) ^ a = u; grind⟩
      · exact Dn.int 0
    · exact ⟨d ^ a * (d * N), by rw [Nat.pow_succ, Nat.mul_pow]; generalize d ^ a = u; generalize N ^ a = v; grind⟩
  | p + 1, hp => by
    rw [part]
    refine (part_dn hk hF hG p (by omega)).sub (((hk.mul (dn_XF hF (p + 1))).mul (hG (a - (p + 1)) (by omega))).up ?_)
    exact pow_split (by omega) hp
theorem bef_nd {d N : Nat} {k : Rat} {F : Ser Rat} (hk : Dn d k) (hF : Nd N F) : Nd (d * N) (bef k F) := fun n => by
  induction n using Nat.strongRecOn with
  | ind n ih =>
    rw [← part_end (bef_eq k F) n]
    exact part_dn hk hF (fun m hm => ih m hm) n (Nat.le_refl _)
/-! and back -/
def back (k : Rat) (F G : Ser Rat) (a : Nat) : Nat → Rat
  | 0 => G.c a
  | p + 1 => back k F G a p + k * G.c (p + 1) * F.c (a - (p + 1) - 1)
theorem back_sum (k : Rat) (F G : Ser Rat) (a : Nat) : ∀ p, p + 1 ≤ a → back k F G a p = G.c a + (sm (fun q => (C k * G).c q * (X * F).c (a - q)) (p + 1) - k * G.c 0 * F.c (a - 1))
  | 0, h => by
    rw [back, sm, sm, C_mul, XF_c, if_neg (by omega), Nat.sub_zero]
    grind
  | p + 1, h => by
    rw [back, back_sum k F G a p (by omega), sm_succ (n := p + 1), C_mul, XF_c (n := a - (p + 1)), if_neg (by omega)]
    grind
theorem back_end {k : Rat} {F G : Ser Rat} (h : G * (1 + C k * (X * F)) = C k + X * F) {a : Nat} (ha : 1 ≤ a) : back k F G a (a - 1) = (1 - k * k) * F.c (a - 1) := by
  have e : C k + X * F = G + (C k * G) * (X * F) := by rw [← h]; grind
  have g0 : G.c 0 = k := by
    have := congrArg (fun f => f.c 0) e
    simp only [add_c, C_c, X_mul0] at this
    rw [mul_c, mulc_zero, X_mul0] at this
    simp at this
    grind
  have e2 := congrArg (fun f => f.c a) e
  simp only [add_c, C_c, XF_c] at e2
  rw [if_neg (by omega), if_neg (by omega), mul_c, mulc_sm, sm_succ, Nat.sub_self, X_mul0] at e2
  rw [back_sum k F G a (a - 1) (by omega), show a - 1 + 1 = a by omega, g0]
  grind
theorem back_ab {k : Rat} {F G : Ser Rat} (hk : Ab 1 k) (hF : ∀ n, Ab 1 (F.c n)) (hG : ∀ n, Ab 1 (G.c n)) (a : Nat) : ∀ p, Ab (p + 1) (back k F G a p)
  | 0 => hG a
  | p + 1 => by
    rw [back]
    exact (back_ab hk hF hG a p).add ((hk.mul (hG _)).mul (hF _))
theorem back_dn {d N : Nat} {k : Rat} {F G : Ser Rat} (hk : Dn d k) (hF : Nd N F) (hG : Nd (d * N) G) {a : Nat} : ∀ p, p + 1 ≤ a → Dn ((d * N) ^ (a + 1)) (back k F G a p)
  | 0, _ => hG a
  | p + 1, hp => by
    rw [back]
    refine (back_dn hk hF hG p (by omega)).add (((hk.mul (hG (p + 1))).mul (hF (a - (p + 1) - 1))).up ?_)
    rw [show a - (p + 1) - 1 + 1 = a - (p + 1) by omega]
    have := pow_split (d := d) (N := N) (a := a) (q := a - (p + 1)) (by omega) (by omega)
    rw [show a - (a - (p + 1)) + 1 = p + 1 + 1 by omega] at this
    rw [show d * (d * N) ^ (p + 1 + 1) * N ^ (a - (p + 1)) = d * N ^ (a - (p + 1)) * (d * N) ^ (p + 1 + 1) by grind]
    exact this
/-- the echoes of a stack of layers -/
def serS : List Rat → Ser Rat
  | [] => 0
  | k :: ks => bef k (serS ks)
def prd : List Rat → Nat
  | [] => 1
  | k :: ks => k.den * prd ks
theorem serS_nd : ∀ (ks : List Rat), Nd (prd ks) (serS ks)
  | [] => Nd.zero
  | k :: ks => bef_nd (Dn.self k) (serS_nd ks)
theorem serS_ct : ∀ (ks : List Rat), (∀ k ∈ ks, Ab 1 k) → Ct (serS ks)
  | [], _ => Ct.zero
  | k :: ks, h => by
    obtain ⟨h1, h2⟩ := h k List.mem_cons_self
    exact Ct.bef (serS_ct ks fun x hx => h x (List.mem_cons_of_mem _ hx)) h1 h2
theorem serS_ab {ks : List Rat} (h : ∀ k ∈ ks, Ab 1 k) (n : Nat) : Ab 1 ((serS ks).c n) := (serS_ct ks h).one n
theorem prd_pos : ∀ (ks : List Rat), prd ks ≠ 0
  | [] => by decide
  | k :: ks => by
    have := k.den_nz
    have := prd_pos ks
    exact Nat.mul_ne_zero (by assumption) (by assumption)
theorem prd_le : ∀ (ks : List Rat), (∀ k ∈ ks, k.den ≤ 6) → prd ks ≤ 6 ^ ks.length
  | [], _ => by decide
  | k :: ks, h => by
    rw [prd, List.length_cons, Nat.pow_succ, Nat.mul_comm (6 ^ _)]
    exact Nat.mul_le_mul (h k List.mem_cons_self) (prd_le ks fun x hx => h x (List.mem_cons_of_mem _ hx))
end MS

namespace W
open DL MS L2
def sl (F : Ser Rat) (m : Nat) : List D := (List.range m).map fun n => encR (F.c n)
theorem sl_len (F : Ser Rat) (m : Nat) : (sl F m).length = m := by simp [sl]
theorem sl_at {F : Ser Rat} {m n : Nat} (h : n < m) : atI (sl F m) (n : Int) = some (encR (F.c n)) := by
  rw [at_nat (by rw [sl_len]; exact h)]
  unfold sl
  rw [List.getElem?_map, List.getElem?_range h]
  rfl
theorem sl_at0 {F : Ser Rat} {m : Nat} (h : 0 < m) : atI (sl F m) 0 = some (encR (F.c 0)) := sl_at (n := 0) h
theorem sl_succ (F : Ser Rat) (m : Nat) : sl F (m + 1) = sl F m ++ [encR (F.c m)] := by
  unfold sl
  rw [List.range_succ, List.map_append]
  rfl
theorem sl_X (F : Ser Rat) {m : Nat} (h : 0 < m) : encR 0 :: (sl F m).dropLast = sl (X * F) m := by
  obtain ⟨n, rfl⟩ : ∃ n, m = n + 1 := ⟨m - 1, by omega⟩
  rw [sl_succ, List.dropLast_concat]
  unfold sl
  rw [List.range_succ_eq_map, List.map_cons, List.map_map, X_mul0]
  congr 1
  exact List.map_congr_left fun i _ => by
    show _ = encR ((X * F).c (i + 1))
    rw [X_mul]
theorem enc0 : encR 0 = .tup [.int 0, .int 1] := rfl
theorem enc1 : encR 1 = .tup [.int 1, .int 1] := rfl
theorem st_enc (r : Rat) : (encR r).st = true := rfl
theorem st_sl (F : Ser Rat) (m : Nat) : ∀ x ∈ sl F m, x.st = true := fun x hx => by
  obtain ⟨i, _, rfl⟩ := List.mem_map.mp hx
  rfl
theorem go {W M : Nat} {x : Rat} (h : Dn M x) (hM : M ∣ W ^ 12) (hW : W ≠ 0) (hW2 : W < 2 ^ 16) (hB : Ab 13 x) : Rz 200 x := by
  have h1 := h.up hM
  have h2 : W ^ 12 < 2 ^ 192 := by
    have := Nat.pow_lt_pow_left hW2 (n := 12) (by decide)
    rw [← Nat.pow_mul] at this
    exact this
  have h3 := size_of h1 (Nat.pos_iff_ne_zero.mp (Nat.pow_pos (Nat.pos_of_ne_zero hW))) h2 hB (by decide : 13 < 2 ^ 4)
  exact ⟨Sm.mono h3.1 (by decide), Sm.mono h3.2 (by decide)⟩
section
variable {d N m : Nat} {k : Rat} {F : Ser Rat} {s : RS}
theorem dvd_k (hp : 1 ≤ 12) : d ∣ (d * N) ^ 12 := ⟨N * (d * N) ^ 11, by rw [Nat.pow_succ _ 11]; generalize (d * N) ^ 11 = u; grind⟩
theorem dvd_F {p : Nat} (hp : p ≤ 12) : N ^ p ∣ (d * N) ^ 12 :=
  Nat.dvd_trans ⟨d ^ p, by rw [Nat.mul_pow, Nat.mul_comm]⟩ (Nat.pow_dvd_pow (d * N) hp)
theorem dvd_kF {p : Nat} (hp : p ≤ 11) : d * N ^ p ∣ (d * N) ^ 12 := by
  rw [Nat.pow_succ _ 11, Nat.mul_comm (_ ^ 11)]
  exact Nat.mul_dvd_mul ⟨N, rfl⟩ (Nat.dvd_trans ⟨d ^ p, by rw [Nat.mul_pow, Nat.mul_comm]⟩ (Nat.pow_dvd_pow (d * N) hp))
theorem bef_in (hk : Ab 1 k) (hd : Dn d k) (hF : ∀ n, Ab 1 (F.c n)) (hN : Nd N F) (hG : ∀ n, Ab 1 ((bef k F).c n)) (w0 : d * N ≠ 0) (w1 : d * N < 2 ^ 16) {sr : Sl} {a : Nat} (ha : a < m) (hm : m ≤ 12) : ∀ (n p : Nat) (e : Sl), p + n = a → notOwn (some e) = true → ∃ e', notOwn (some e') = true ∧
    sForGo (hName 6) (sSet 5 (xVal (fCall 2 (fCons (fV 5) (fCons (fCall 2 (fCons (fCall 2 (fCons (fV 0) (fCons (f2 (fV 2) (fV 6) gIx) fNil)) m_times) (fCons (f2 (fV 3) (f2 (fV 4) (fV 6) DL.gSub) gIx) fNil)) m_times) fNil)) m_minus))) (rgD ((p : Int) + 1) n)
      [.val (encR k), sr, .val (.lst (sl (X * F) m)), .own (sl (bef k F) a), .val (.int a), .val (encR (part k F (bef k F) a p)), e] s =
      .nx [.val (encR k), sr, .val (.lst (sl (X * F) m)), .own (sl (bef k F) a), .val (.int a), .val (encR ((bef k F).c a)), e'] s
  | 0, p, e, hp, he => by
    obtain rfl : p = a := by omega
    refine ⟨e, he, ?_⟩
    rw [part_end (bef_eq k F)]
    rfl
  | n + 1, p, e, hp, he => by
    obtain ⟨e', h1, h2⟩ := bef_in hk hd hF hN hG w0 w1 (sr := sr) ha hm n (p + 1) (.val (.int ((p : Int) + 1))) (by omega) rfl
    refine ⟨e', h1, ?_⟩
    have i1 : (p : Int) + 1 = ((p + 1 : Nat) : Int) := by omega
    have i2 : (a : Int) - ((p + 1 : Nat) : Int) = ((a - (p + 1) : Nat) : Int) := by omega
    have x1 := sl_at (F := X * F) (m := m) (n := p + 1) (by omega)
    have x2 := sl_at (F := bef k F) (m := a) (n := a - (p + 1)) (by omega)
    have nG := bef_nd hd hN
    have z0 : Rz 200 k := go hd (dvd_k (N := N) (by decide)) w0 w1 (hk.mono (by decide))
    have z1 : Rz 200 ((X * F).c (p + 1)) := go (dn_XF hN (p + 1)) (dvd_F (by omega)) w0 w1 ((ab_XF hF _).mono (by decide))
    have z2 : Rz 200 (k * (X * F).c (p + 1)) := go (hd.mul (dn_XF hN (p + 1))) (dvd_kF (by omega)) w0 w1 ((hk.mul (ab_XF hF _)).mono (by decide))
    have z3 : Rz 200 ((bef k F).c (a - (p + 1))) := go (nG _) (Nat.pow_dvd_pow _ (by omega)) w0 w1 ((hG _).mono (by decide))
    have z4 : Rz 200 (k * (X * F).c (p + 1) * (bef k F).c (a - (p + 1))) := go ((hd.mul (dn_XF hN (p + 1))).mul (nG _)) (Nat.dvd_trans (pow_split (by omega) (by omega)) (Nat.pow_dvd_pow (d * N) (show a + 1 ≤ 12 by omega))) w0 w1 (((hk.mul (ab_XF hF _)).mul (hG _)).mono (by decide))
    have z5 : Rz 200 (part k F (bef k F) a p) := go (part_dn hd hN (fun m hm => nG m) p (by omega)) (Nat.pow_dvd_pow (d * N) (show a + 1 ≤ 12 by omega)) w0 w1 ((part_ab hk hF hG a p).mono (by omega))
    have y1 := e_times z0 z1 (by decide) s
    have y2 := e_times z2 z3 (by decide) s
    have y3 := e_minus z5 z4 (by decide) s
    rw [ev_rgD, ev_go, ← h2]
    rw [i1] at *
    simp [he, i2, x1, x2, y1, y2, y3, st_enc, part, -Int.natCast_add]
def befTurn : FS := (sSeq (sSet 5 (xVal (fIf (bt (f2 (fV 4) (fC (.int 0)) gEq)) (fCall 2 (fCons (f2 (fV 2) (fV 4) gIx) (fCons (fV 0) fNil)) m_plus) (f2 (fV 2) (fV 4) gIx))))
  (sSeq (sFor (iRg2 (fCons (fC (.int 1)) (fCons (f2 (fV 4) (fC (.int 1)) gAdd) fNil))) (hName 6)
  (sSet 5 (xVal (fCall 2 (fCons (fV 5) (fCons (fCall 2 (fCons (fCall 2 (fCons (fV 0) (fCons (f2 (fV 2) (fV 6) gIx) fNil)) m_times) (fCons (f2 (fV 3) (f2 (fV 4) (fV 6) DL.gSub) gIx) fNil)) m_times) fNil)) m_minus))))
  (sApp 3 (fV 5))))
theorem bef_told (hk : Ab 1 k) (hd : Dn d k) (hF : ∀ n, Ab 1 (F.c n)) (hN : Nd N F) (w0 : d * N ≠ 0) (w1 : d * N < 2 ^ 16) {sr o5 e5 e6 : Sl} (hm : m ≤ 12) {a : Nat} (ha : a < m) :
    (fIf (bt (f2 (fV 4) (fC (.int 0)) gEq)) (fCall 2 (fCons (f2 (fV 2) (fV 4) gIx) (fCons (fV 0) fNil)) m_plus) (f2 (fV 2) (fV 4) gIx)) [.val (encR k), sr, .val (.lst (sl (X * F) m)), o5, .val (.int a), e5, e6] s = some (encR (part k F (bef k F) a 0), s) := by
  have x1 := sl_at (F := X * F) (m := m) (n := a) (by omega)
  have z0 : Rz 200 k := go hd (dvd_k (N := N) (by decide)) w0 w1 (hk.mono (by decide))
  have z1 : Rz 200 ((X * F).c a) := go (dn_XF hN a) (dvd_F (by omega)) w0 w1 ((ab_XF hF _).mono (by decide))
  have y1 := e_plus z1 z0 (by decide) s
  have p0 : part k F (bef k F) a 0 = if a = 0 then (X * F).c a + k else (X * F).c a := by
    rw [part, add_c, C_c]
    split <;> grind
  rw [p0]
  by_cases h0 : a = 0
  · subst h0
    have x1' := sl_at0 (F := X * F) (m := m) (by omega)
    simp [x1', y1, st_enc]
  · have h0' : ¬ (a : Int) = 0 := by omega
    simp [h0, h0', x1]
theorem rg_one {a : Nat} (ha : a ≤ 1000) {e0 e1 e2 e3 e5 e6 : Sl} : iRg2 (fCons (fC (.int 1)) (fCons (f2 (fV 4) (fC (.int 1)) gAdd) fNil)) [e0, e1, e2, e3, .val (.int a), e5, e6] s = some (false, rgD 1 a, s) := by
  have b1 : (a : Int) + 1 ≤ 2305843009213693952 := by omega
  have b2 : -2305843009213693952 ≤ (a : Int) + 1 := by omega
  have b3 : (a : Int) + 1 - 1 = a := by omega
  simp [b1, b2, b3]
theorem bef_turn (hk : Ab 1 k) (hd : Dn d k) (hF : ∀ n, Ab 1 (F.c n)) (hN : Nd N F) (hG : ∀ n, Ab 1 ((bef k F).c n)) (w0 : d * N ≠ 0) (w1 : d * N < 2 ^ 16) {sr : Sl} (hm : m ≤ 12) {a : Nat} (ha : a < m) {e5 e6 : Sl} (h6 : notOwn (some e6) = true) :
    ∃ e6', notOwn (some e6') = true ∧ befTurn [.val (encR k), sr, .val (.lst (sl (X * F) m)), .own (sl (bef k F) a), .val (.int a), e5, e6] s =
      .nx [.val (encR k), sr, .val (.lst (sl (X * F) m)), .own (sl (bef k F) (a + 1)), .val (.int a), .val (encR ((bef k F).c a)), e6'] s := by
  obtain ⟨g6, n6, hg⟩ := bef_in (s := s) hk hd hF hN hG w0 w1 (sr := sr) (a := a) (by omega) hm a 0 e6 (by omega) h6
  refine ⟨g6, n6, ?_⟩
  have told := bef_told (s := s) hk hd hF hN w0 w1 (sr := sr) (o5 := .own (sl (bef k F) a)) (e5 := e5) (e6 := e6) hm ha
  have b4 : a < 1000000 := by omega
  rw [show ((0 : Nat) : Int) + 1 = 1 by rfl] at hg
  unfold befTurn
  rw [ev_seq, ev_set, ev_xVal, told]
  simp only [st_enc, if_true, List.set_cons_succ, List.set_cons_zero, List.length_cons]
  rw [if_pos (by omega)]
  simp only [ev_seq, ev_for', rg_one (s := s) (show a ≤ 1000 by omega), hg, sl_succ]
  simp [b4, st_enc, sl_len]
theorem bef_out (hk : Ab 1 k) (hd : Dn d k) (hF : ∀ n, Ab 1 (F.c n)) (hN : Nd N F) (hG : ∀ n, Ab 1 ((bef k F).c n)) (w0 : d * N ≠ 0) (w1 : d * N < 2 ^ 16) {sr : Sl} (hm : m ≤ 12) : ∀ (n a : Nat) (e4 e5 e6 : Sl), a + n = m → notOwn (some e4) = true → notOwn (some e6) = true → ∃ e4' e5' e6',
    sForGo (hName 4) befTurn (rgD (a : Int) n)
      [.val (encR k), sr, .val (.lst (sl (X * F) m)), .own (sl (bef k F) a), e4, e5, e6] s =
      .nx [.val (encR k), sr, .val (.lst (sl (X * F) m)), .own (sl (bef k F) m), e4', e5', e6'] s
  | 0, a, e4, e5, e6, ha, _, _ => by
    obtain rfl : a = m := by omega
    exact ⟨e4, e5, e6, rfl⟩
  | n + 1, a, e4, e5, e6, ha, h4, h6 => by
    obtain ⟨g6, n6, hg⟩ := bef_turn (s := s) hk hd hF hN hG w0 w1 (sr := sr) hm (a := a) (by omega) (e5 := e5) h6
    obtain ⟨f4, f5, f6, hf⟩ := bef_out hk hd hF hN hG w0 w1 (sr := sr) hm n (a + 1) (.val (.int a)) (.val (encR ((bef k F).c a))) g6 (by omega) rfl n6
    refine ⟨f4, f5, f6, ?_⟩
    rw [show ((a + 1 : Nat) : Int) = (a : Int) + 1 by omega] at hf
    rw [ev_rgD, ev_go]
    simp [h4, hg, hf]
theorem sl_all (F : Ser Rat) (m : Nat) : (sl F m).all D.st = true := List.all_eq_true.mpr (st_sl F m)
theorem e_before_step (hk : Ab 1 k) (hd : Dn d k) (hF : ∀ n, Ab 1 (F.c n)) (hN : Nd N F) (hG : ∀ n, Ab 1 ((bef k F).c n)) (w0 : d * N ≠ 0) (w1 : d * N < 2 ^ 16) (hm : m ≤ 12) (h1 : 1 ≤ m) :
    m_before_step [encR k, .lst (sl F m)] s = some (.lst (sl (bef k F) m), s) := by
  obtain ⟨e4, e5, e6, h⟩ := bef_out (s := s) hk hd hF hN hG w0 w1 (sr := .val (.lst (sl F m))) hm m 0 .no .no .no (by omega) rfl rfl
  have h' : sForGo (hName 4) befTurn (rgD 0 m) [.val (encR k), .val (.lst (sl F m)), .val (.lst (sl (X * F) m)), .own [], .no, .no, .no] s = _ := h
  unfold befTurn at h'
  have c1 := sl_X F (m := m) (by omega)
  rw [enc0] at c1
  have c2 := st_sl (X * F) m
  have b3 : m ≤ 1000000 := by omega
  have b1 : (m : Int) ≤ 2305843009213693952 := by omega
  have b2 : -2305843009213693952 ≤ (m : Int) := by omega
  unfold m_before_step g_before_step
  rw [ev_fn]
  simp [cut_last, c1, eq_true c2, b3, b1, b2, h', sl_len]
end
/-- steps as the law draws them -/
structure St (ks : List Rat) : Prop where
  ab : ∀ k ∈ ks, Ab 1 k
  den : ∀ k ∈ ks, k.den ≤ 6
  bel : ∀ k ∈ ks, k.num.natAbs < k.den
  len : ks.length ≤ 6
theorem St.tail {k : Rat} {ks : List Rat} (h : St (k :: ks)) : St ks :=
  ⟨fun x hx => h.ab x (List.mem_cons_of_mem _ hx), fun x hx => h.den x (List.mem_cons_of_mem _ hx), fun x hx => h.bel x (List.mem_cons_of_mem _ hx), by have := h.len; rw [List.length_cons] at this; omega⟩
theorem St.suf {a b : List Rat} (h : St (a ++ b)) : St b := by
  induction a with
  | nil => exact h
  | cons k a ih => exact ih h.tail
theorem St.ok {ks : List Rat} (h : St ks) : Ok60 ks := fun r hr => by
  have h1 := h.den r hr
  have h2 := h.bel r hr
  have : (6 : Nat) ≤ 10 ^ 60 := by decide
  omega
theorem St.prd {ks : List Rat} (h : St ks) : prd ks < 2 ^ 16 := by
  have h1 := prd_le ks h.den
  have h2 : 6 ^ ks.length ≤ 6 ^ 6 := Nat.pow_le_pow_right (by decide) h.len
  have h3 : 6 ^ 6 < 2 ^ 16 := by decide
  omega
theorem e_bef {k : Rat} {ks : List Rat} {m : Nat} (h : St (k :: ks)) (hm : m ≤ 12) (h1 : 1 ≤ m) (s : RS) : m_before_step [encR k, .lst (sl (serS ks) m)] s = some (.lst (sl (serS (k :: ks)) m), s) :=
  e_before_step (N := prd ks) (h.ab k List.mem_cons_self) (Dn.self k) (fun n => serS_ab h.tail.ab n) (serS_nd ks) (fun n => serS_ab (ks := k :: ks) h.ab n) (prd_pos (k :: ks)) h.prd hm h1
theorem ser_loop {m : Nat} {o p : Sl} (hm : m ≤ 12) (h1 : 1 ≤ m) {s : RS} : ∀ (rev suf : List Rat) (e : Sl), St (rev.reverse ++ suf) → notOwn (some e) = true → ∃ e',
    sForGo (hName 3) (sSet 2 (xVal (fCall 2 (fCons (fV 3) (fCons (fV 2) fNil)) m_before_step))) (rev.map encR) [o, p, .val (.lst (sl (serS suf) m)), e] s = .nx [o, p, .val (.lst (sl (serS (rev.reverse ++ suf)) m)), e'] s
  | [], suf, e, _, _ => ⟨e, rfl⟩
  | k :: rev, suf, e, h, he => by
    have er : (k :: rev).reverse ++ suf = rev.reverse ++ (k :: suf) := by simp
    rw [er] at h ⊢
    obtain ⟨e', hh⟩ := ser_loop (o := o) (p := p) hm h1 (s := s) rev (k :: suf) (.val (encR k)) h rfl
    refine ⟨e', ?_⟩
    have hb := e_bef h.suf hm h1 s
    rw [← hh, List.map_cons, ev_go]
    simp [he, hb, st_enc]
theorem sl_C (k : Rat) (m : Nat) : sl (C k) (m + 1) = encR k :: (List.replicate m [encR 0]).flatten := by
  unfold sl
  rw [List.range_succ_eq_map, List.map_cons, List.map_map]
  have e1 : (C k).c 0 = k := rfl
  rw [e1]
  congr 1
  have : ((fun n => encR ((C k).c n)) ∘ Nat.succ) = fun _ => encR 0 := by
    funext n
    show encR (if n + 1 = 0 then k else 0) = _
    rw [if_neg (by omega)]
  rw [this]
  induction m with
  | zero => rfl
  | succ m ih => rw [List.range_succ_eq_map, List.map_cons, List.map_map, List.replicate_succ, List.flatten_cons, ← ih]; rfl
theorem serS_one (k : Rat) : serS [k] = C k := by rw [serS, serS, bef_zero]
theorem g_all {bs : List Bool} : gAll [.lst (bs.map D.bl)] = some (.bl (bs.all id)) := by
  have : bools (bs.map D.bl) = some bs := by
    induction bs with
    | nil => rfl
    | cons b bs ih => rw [List.map_cons, bools, ih]; rfl
  simp [gAll, this]
theorem enc_list (ks : List Rat) : ∀ x ∈ ks.map encR, x.st = true := fun x hx => by
  obtain ⟨i, _, rfl⟩ := List.mem_map.mp hx
  rfl
theorem e_echo_series {ini : List Rat} {k : Rat} {m : Nat} (h : St (ini ++ [k])) (hm : m ≤ 12) (h1 : 1 ≤ m) (s : RS) :
    m_echo_series [encS (ini ++ [k]), .int m] s = some (.tup (sl (serS (ini ++ [k])) m), s) := by
  have hl := h.len
  have hl' : ini.length ≤ 5 := by rw [List.length_append] at hl; simp at hl; omega
  have n1 := e_need_steps h.ok (by simp) (by omega) s
  have n2 := e_is_in (m : Int) 1 12 ⟨by omega, by omega⟩ s
  obtain ⟨e', lp⟩ := ser_loop (o := .val (encS (ini ++ [k]))) (p := .val (.int m)) hm h1 (s := s) ini.reverse [k] .no (by rw [List.reverse_reverse]; exact h) rfl
  rw [List.reverse_reverse, serS_one] at lp
  have lc := lc_map (h := hName 3) (fa := fCall 1 (fCons (fV 3) fNil) m_is_below) (env := [.val (encS (ini ++ [k])), .val (.int m), .no, .no]) (s := s)
    (fun _ : Rat => true) encR D.bl (fun _ => rfl) ini (fun r hr => ⟨[.val (encS (ini ++ [k])), .val (.int m), .no, .val (encR r)], by rw [ev_hName]; rfl, by
      have b := h.bel r (List.mem_append_left _ hr)
      have eb := e_is_below (x := r) s
      have b' : (r.num.natAbs : Int) < r.den := by omega
      simp [st_enc, eb, b']⟩)
  obtain ⟨q, rfl⟩ : ∃ q, m = q + 1 := ⟨m - 1, by omega⟩
  have i1 : ((ini ++ [k]).map encR).dropLast = ini.map encR := by rw [List.map_append]; simp
  have i2 : atI ((ini ++ [k]).map encR) (-1) = some (encR k) := by rw [at_last (by simp)]; simp
  have i3 : (((q + 1 : Nat) : Int) - 1) = q := by omega
  have i4 := sl_C k q
  rw [enc0] at i4
  have b1 : (q : Int) ≤ 1000000 := by omega
  have b2 : -4611686018427387904 ≤ (q : Int) := by omega
  have b3 : q ≤ 1000000 := by omega
  have b4 : ini.length ≤ 1000000 := by omega
  have b5 : ini.length + 1 ≤ 1000000 := by omega
  have b6 : gAll [.lst ((ini.map (fun _ => true)).map D.bl)] = some (.bl true) := by
    rw [g_all]
    congr 2
    rw [List.all_eq_true]
    intro x hx
    obtain ⟨_, _, rfl⟩ := List.mem_map.mp hx
    rfl
  have b7 : 1 + q ≤ 1000000 := by omega
  have b8 : q + 1 ≤ 1000000 := by omega
  have i6 : stepL (ini.map encR) none none (-1) = ini.reverse.map encR := by rw [step_rev, List.map_reverse]
  have i7 : (ini.reverse.map encR).length ≤ 1000000 := by simp; omega
  have i8 : (ini.map encR).length ≤ 1000000 := by simp; omega
  have st := st_sl (C k) (q + 1)
  have ln : (sl (C k) (q + 1)).length ≤ 1000000 := by rw [sl_len]; omega
  unfold m_echo_series g_echo_series
  rw [ev_fn]
  unfold encS d_MOST_STEPS at *
  generalize (ini ++ [k]).map encR = L at *
  generalize ((q + 1 : Nat) : Int) = mI at *
  generalize ini.map encR = I at *
  generalize ini.reverse.map encR = J at *
  generalize (ini.map (fun _ => true)).map D.bl = T at *
  generalize sl (C k) (q + 1) = S at *
  rw [List.flatten_replicate_singleton] at i4
  simp [n1, n2, cut_last, i1, i2, i3, i6, i7, i8, lc, b1, b2, b3, b6, ← i4, st_enc, eq_true st, ln, lp]
section
variable {d N m : Nat} {k : Rat} {F : Ser Rat} {s : RS}
def bkIn : FS := (sSet 5 (xVal (fCall 2 (fCons (fV 5) (fCons (fCall 2 (fCons (fCall 2 (fCons (fV 1) (fCons (f2 (fV 0) (fV 6) gIx) fNil)) m_times) (fCons (f2 (fV 2) (f2 (f2 (fV 4) (fV 6) DL.gSub) (fC (.int 1)) DL.gSub) gIx) fNil)) m_times) fNil)) m_plus)))
def bkTurn : FS := (sSeq (sSet 5 (xVal (f2 (fV 0) (fV 4) gIx)))
  (sSeq (sFor (iRg2 (fCons (fC (.int 1)) (fCons (fV 4) fNil))) (hName 6) bkIn)
  (sApp 2 (fCall 2 (fCons (fV 5) (fCons (fV 3) fNil)) m_over))))
theorem bk_in (hk : Ab 1 k) (hd : Dn d k) (hF : ∀ n, Ab 1 (F.c n)) (hN : Nd N F) (hG : ∀ n, Ab 1 ((bef k F).c n)) (w0 : d * N ≠ 0) (w1 : d * N < 2 ^ 16) {wh : Sl} {a : Nat} (ha : a < m) (hm : m ≤ 12) : ∀ (n p : Nat) (e : Sl), p + n + 1 = a → notOwn (some e) = true → ∃ e', notOwn (some e') = true ∧
    sForGo (hName 6) bkIn (rgD ((p : Int) + 1) n)
      [.val (.lst (sl (bef k F) m)), .val (encR k), .own (sl F (a - 1)), wh, .val (.int a), .val (encR (back k F (bef k F) a p)), e] s =
      .nx [.val (.lst (sl (bef k F) m)), .val (encR k), .own (sl F (a - 1)), wh, .val (.int a), .val (encR ((1 - k * k) * F.c (a - 1))), e'] s
  | 0, p, e, hp, he => by
    obtain rfl : p = a - 1 := by omega
    refine ⟨e, he, ?_⟩
    rw [back_end (bef_eq k F) (by omega)]
    rfl
  | n + 1, p, e, hp, he => by
    obtain ⟨e', h1, h2⟩ := bk_in hk hd hF hN hG w0 w1 (wh := wh) ha hm n (p + 1) (.val (.int ((p : Int) + 1))) (by omega) rfl
    refine ⟨e', h1, ?_⟩
    have i1 : (p : Int) + 1 = ((p + 1 : Nat) : Int) := by omega
    have i2 : (a : Int) - ((p + 1 : Nat) : Int) - 1 = ((a - (p + 1) - 1 : Nat) : Int) := by omega
    have x1 := sl_at (F := bef k F) (m := m) (n := p + 1) (by omega)
    have x2 := sl_at (F := F) (m := a - 1) (n := a - (p + 1) - 1) (by omega)
    have nG := bef_nd hd hN
    have z0 : Rz 200 k := go hd (dvd_k (N := N) (by decide)) w0 w1 (hk.mono (by decide))
    have z1 : Rz 200 ((bef k F).c (p + 1)) := go (nG _) (Nat.pow_dvd_pow _ (by omega)) w0 w1 ((hG _).mono (by decide))
    have dv : d * (d * N) ^ (p + 1 + 1) ∣ (d * N) ^ 12 := Nat.dvd_trans ⟨N, by rw [Nat.pow_succ _ (p + 1 + 1)]; generalize (d * N) ^ (p + 1 + 1) = u; grind⟩ (Nat.pow_dvd_pow (d * N) (show p + 1 + 1 + 1 ≤ 12 by omega))
    have z2 : Rz 200 (k * (bef k F).c (p + 1)) := go (hd.mul (nG (p + 1))) dv w0 w1 ((hk.mul (hG _)).mono (by decide))
    have z3 : Rz 200 (F.c (a - (p + 1) - 1)) := go (hN _) (dvd_F (by omega)) w0 w1 ((hF _).mono (by decide))
    have dv2 : d * (d * N) ^ (p + 1 + 1) * N ^ (a - (p + 1) - 1 + 1) ∣ (d * N) ^ 12 := by
      have := pow_split (d := d) (N := N) (a := a) (q := a - (p + 1)) (by omega) (by omega)
      rw [show a - (a - (p + 1)) + 1 = p + 1 + 1 by omega] at this
      rw [show a - (p + 1) - 1 + 1 = a - (p + 1) by omega, show d * (d * N) ^ (p + 1 + 1) * N ^ (a - (p + 1)) = d * N ^ (a - (p + 1)) * (d * N) ^ (p + 1 + 1) by grind]
      exact Nat.dvd_trans this (Nat.pow_dvd_pow (d * N) (by omega))
    have z4 : Rz 200 (k * (bef k F).c (p + 1) * F.c (a - (p + 1) - 1)) := go ((hd.mul (nG (p + 1))).mul (hN _)) dv2 w0 w1 (((hk.mul (hG _)).mul (hF _)).mono (by decide))
    have z5 : Rz 200 (back k F (bef k F) a p) := go (back_dn hd hN nG p (by omega)) (Nat.pow_dvd_pow (d * N) (show a + 1 ≤ 12 by omega)) w0 w1 ((back_ab hk hF hG a p).mono (by omega))
    have y1 := e_times z0 z1 (by decide) s
    have y2 := e_times z2 z3 (by decide) s
    have y3 := e_plus z5 z4 (by decide) s
    rw [ev_rgD, ev_go, ← h2]
    rw [i1] at *
    unfold bkIn
    simp [he, i2, x1, x2, y1, y2, y3, st_enc, back, -Int.natCast_add]
theorem rg_at {a : Nat} (ha : a ≤ 1000) {e0 e1 e2 e3 e5 e6 : Sl} : iRg2 (fCons (fC (.int 1)) (fCons (fV 4) fNil)) [e0, e1, e2, e3, .val (.int a), e5, e6] s = some (false, rgD 1 (a - 1), s) := by
  have b1 : (a : Int) ≤ 2305843009213693952 := by omega
  have b2 : -2305843009213693952 ≤ (a : Int) := by omega
  have b3 : ((a : Int) - 1).toNat = a - 1 := by omega
  simp [b1, b2, b3]
theorem bk_turn (hk : Ab 1 k) (hk1 : 1 - k * k ≠ 0) (hd : Dn d k) (hF : ∀ n, Ab 1 (F.c n)) (hN : Nd N F) (hG : ∀ n, Ab 1 ((bef k F).c n)) (w0 : d * N ≠ 0) (w1 : d * N < 2 ^ 16) (hm : m ≤ 12) {a : Nat} (ha : a < m) (ha1 : 1 ≤ a) {e5 e6 : Sl} (h6 : notOwn (some e6) = true) :
    ∃ e6', notOwn (some e6') = true ∧ bkTurn [.val (.lst (sl (bef k F) m)), .val (encR k), .own (sl F (a - 1)), .val (encR (1 - k * k)), .val (.int a), e5, e6] s =
      .nx [.val (.lst (sl (bef k F) m)), .val (encR k), .own (sl F a), .val (encR (1 - k * k)), .val (.int a), .val (encR ((1 - k * k) * F.c (a - 1))), e6'] s := by
  obtain ⟨g6, n6, hg⟩ := bk_in (s := s) hk hd hF hN hG w0 w1 (wh := .val (encR (1 - k * k))) (a := a) ha hm (a - 1) 0 e6 (by omega) h6
  refine ⟨g6, n6, ?_⟩
  have x1 := sl_at (F := bef k F) (m := m) (n := a) ha
  have b4 : a - 1 < 1000000 := by omega
  have nG := bef_nd hd hN
  have e1 : (1 - k * k) * F.c (a - 1) / (1 - k * k) = F.c (a - 1) := by grind
  have z1 : Rz 200 ((1 - k * k) * F.c (a - 1)) := by
    rw [← back_end (bef_eq k F) ha1]
    exact go (back_dn hd hN nG (a - 1) (by omega)) (Nat.pow_dvd_pow (d * N) (show a + 1 ≤ 12 by omega)) w0 w1 ((back_ab hk hF hG a (a - 1)).mono (by omega))
  have dd : d * d ∣ (d * N) ^ 12 := Nat.dvd_trans ⟨N * N, by grind⟩ (Nat.pow_dvd_pow (d * N) (show 2 ≤ 12 by decide))
  have z2 : Rz 200 (1 - k * k) := go ((Dn.int (M := d * d) 1).sub (hd.mul hd)) dd w0 w1 (((show Ab 1 (1 : Rat) from ⟨by decide, by decide⟩).sub (hk.mul hk)).mono (by decide))
  have y1 := e_over z1 z2 hk1 (by decide) s
  rw [e1] at y1
  have hs := sl_succ F (a - 1)
  rw [show a - 1 + 1 = a by omega] at hs
  rw [show ((0 : Nat) : Int) + 1 = 1 by rfl] at hg
  have hb : back k F (bef k F) a 0 = (bef k F).c a := rfl
  rw [hb] at hg
  have hr := rg_at (s := s) (a := a) (by omega) (e0 := .val (.lst (sl (bef k F) m))) (e1 := .val (encR k)) (e2 := .own (sl F (a - 1))) (e3 := .val (encR (1 - k * k))) (e5 := .val (encR ((bef k F).c a))) (e6 := e6)
  unfold bkTurn
  rw [hs]
  simp [-ev_rg2, x1, hr, hg, st_enc, y1, b4, sl_len]
theorem bk_out (hk : Ab 1 k) (hk1 : 1 - k * k ≠ 0) (hd : Dn d k) (hF : ∀ n, Ab 1 (F.c n)) (hN : Nd N F) (hG : ∀ n, Ab 1 ((bef k F).c n)) (w0 : d * N ≠ 0) (w1 : d * N < 2 ^ 16) (hm : m ≤ 12) : ∀ (n a : Nat) (e4 e5 e6 : Sl), a + n = m → 1 ≤ a → notOwn (some e4) = true → notOwn (some e6) = true → ∃ e4' e5' e6',
    sForGo (hName 4) bkTurn (rgD (a : Int) n)
      [.val (.lst (sl (bef k F) m)), .val (encR k), .own (sl F (a - 1)), .val (encR (1 - k * k)), e4, e5, e6] s =
      .nx [.val (.lst (sl (bef k F) m)), .val (encR k), .own (sl F (m - 1)), .val (encR (1 - k * k)), e4', e5', e6'] s
  | 0, a, e4, e5, e6, ha, _, _, _ => by
    obtain rfl : a = m := by omega
    exact ⟨e4, e5, e6, rfl⟩
  | n + 1, a, e4, e5, e6, ha, ha1, h4, h6 => by
    obtain ⟨g6, n6, hg⟩ := bk_turn (s := s) hk hk1 hd hF hN hG w0 w1 hm (a := a) (by omega) ha1 (e5 := e5) h6
    obtain ⟨f4, f5, f6, hf⟩ := bk_out hk hk1 hd hF hN hG w0 w1 hm n (a + 1) (.val (.int a)) (.val (encR ((1 - k * k) * F.c (a - 1)))) g6 (by omega) (by omega) rfl n6
    refine ⟨f4, f5, f6, ?_⟩
    rw [show ((a + 1 : Nat) : Int) = (a : Int) + 1 by omega, show a + 1 - 1 = a by omega] at hf
    rw [ev_rgD, ev_go]
    simp [h4, hg, hf]
theorem e_behind_step (hk : Ab 1 k) (hk1 : 1 - k * k ≠ 0) (hd : Dn d k) (hF : ∀ n, Ab 1 (F.c n)) (hN : Nd N F) (hG : ∀ n, Ab 1 ((bef k F).c n)) (w0 : d * N ≠ 0) (w1 : d * N < 2 ^ 16) (hm : m ≤ 12) (h1 : 1 ≤ m) :
    m_behind_step [.lst (sl (bef k F) m)] s = some (.lst (sl F (m - 1)), s) := by
  obtain ⟨e4, e5, e6, h⟩ := bk_out (s := s) hk hk1 hd hF hN hG w0 w1 hm (m - 1) 1 .no .no .no (by omega) (by omega) rfl rfl
  have g0 : (bef k F).c 0 = k := by
    rw [← part_end (bef_eq k F) 0, part, add_c, C_c, X_mul0]
    simp
    grind
  have x1 := sl_at0 (F := bef k F) (m := m) (by omega)
  rw [g0] at x1
  have dd : d * d ∣ (d * N) ^ 12 := Nat.dvd_trans ⟨N * N, by grind⟩ (Nat.pow_dvd_pow (d * N) (show 2 ≤ 12 by decide))
  have z0 : Rz 200 k := go hd (dvd_k (N := N) (by decide)) w0 w1 (hk.mono (by decide))
  have zk : Rz 200 (k * k) := go (hd.mul hd) dd w0 w1 ((hk.mul hk).mono (by decide))
  have z1 : Rz 200 (1 : Rat) := ⟨Sm.mono (n := 1) (by unfold Sm; decide) (by decide), Sm.mono (n := 1) (by unfold Sm; decide) (by decide)⟩
  have y1 := e_times z0 z0 (by decide) s
  have y2 := e_minus z1 zk (by decide) s
  have b1 : (m : Int) ≤ 2305843009213693952 := by omega
  have b2 : -2305843009213693952 ≤ (m : Int) := by omega
  have b3 : ((m : Int) - 1).toNat = m - 1 := by omega
  have h' : sForGo (hName 4) bkTurn (rgD 1 (m - 1)) [.val (.lst (sl (bef k F) m)), .val (encR k), .own [], .val (encR (1 - k * k)), .no, .no, .no] s = _ := h
  unfold bkTurn bkIn at h'
  rw [enc1] at y2
  unfold m_behind_step g_behind_step
  rw [ev_fn]
  simp [x1, y1, y2, b1, b2, b3, h', sl_len, st_enc]
end
theorem kk_ne {k : Rat} (h : k.num.natAbs < k.den) : 1 - k * k ≠ 0 := fun z => by
  have e : (1 - k) * (1 + k) = 0 := by grind
  have : k = 1 ∨ k = -1 := by
    rcases Rat.mul_eq_zero.mp e with h | h
    · left; grind
    · right; grind
  rcases this with rfl | rfl
  · exact absurd h (by decide)
  · exact absurd h (by decide)
theorem ser0 {k : Rat} {ks : List Rat} : (serS (k :: ks)).c 0 = k := by
  rw [serS, ← part_end (bef_eq k (serS ks)) 0, part, add_c, C_c, X_mul0]
  simp
  grind
theorem e_back {k : Rat} {ks : List Rat} {m : Nat} (h : St (k :: ks)) (hm : m ≤ 12) (h1 : 1 ≤ m) (s : RS) : m_behind_step [.lst (sl (serS (k :: ks)) m)] s = some (.lst (sl (serS ks) (m - 1)), s) :=
  e_behind_step (N := prd ks) (h.ab k List.mem_cons_self) (kk_ne (h.bel k List.mem_cons_self)) (Dn.self k) (fun n => serS_ab h.tail.ab n) (serS_nd ks) (fun n => serS_ab (ks := k :: ks) h.ab n) (prd_pos (k :: ks)) h.prd hm h1
def soTest : FT := (bt (f2 (fA1 (fCons (fV 2) fNil) gLen) (fC (.int 1)) gGt))
def soBody : FS := (sSeq (sIf (tNotF (bt (fCall 1 (fCons (f2 (fV 2) (fC (.int 0)) gIx) fNil) m_is_below)))
  (sRet (fC .non))
  sNx)
  (sSeq (sApp 1 (f2 (fV 2) (fC (.int 0)) gIx))
  (sSet 2 (xVal (fCall 1 (fCons (fV 2) fNil) m_behind_step)))))
theorem so_loop {o : Sl} {s : RS} : ∀ (suf pre : List Rat) (fuel : Nat) (k : Rat), suf.length < fuel → St (k :: suf) → pre.length + suf.length ≤ 100 →
    sWhile soTest soBody fuel [o, .own (pre.map encR), .val (.lst (sl (serS (k :: suf)) (suf.length + 1)))] s =
      .nx [o, .own ((pre ++ (k :: suf).dropLast).map encR), .val (.lst (sl (serS [(k :: suf).getLast (by simp)]) 1))] s
  | [], pre, fuel + 1, k, hf, h, hp => by
    rw [ev_while]
    unfold soTest
    simp [sl_len]
  | j :: suf, pre, fuel + 1, k, hf, h, hp => by
    have ih := so_loop (o := o) (s := s) suf (pre ++ [k]) fuel j (by rw [List.length_cons] at hf; omega) h.tail (by rw [List.length_append, List.length_singleton]; rw [List.length_cons] at hp; omega)
    have hl := h.len
    simp only [List.length_cons] at hl
    have hb := e_back h (m := suf.length + 1 + 1) (by omega) (by omega) s
    rw [Nat.add_sub_cancel] at hb
    have x0 := sl_at0 (F := serS (k :: j :: suf)) (m := suf.length + 1 + 1) (by omega)
    rw [ser0] at x0
    have eb := e_is_below (x := k) s
    have bl := h.bel k List.mem_cons_self
    have bl' : (k.num.natAbs : Int) < k.den := by omega
    have c1 : (1 : Int) < (suf.length : Int) + 1 + 1 := by omega
    have b4 : pre.length < 1000000 := by omega
    have e1 : (pre ++ [k] ++ (j :: suf).dropLast) = pre ++ (k :: j :: suf).dropLast := by simp
    have e2 : (k :: j :: suf).getLast (by simp) = (j :: suf).getLast (by simp) := by simp
    rw [e1] at ih
    rw [e2, ← ih, ev_while]
    unfold soTest soBody
    rw [List.map_append] at *
    simp [sl_len, x0, eb, bl', hb, st_enc, c1, b4]
theorem ser_ok60 {ks : List Rat} (h : St ks) {m : Nat} (hm : m ≤ 6) : Ok60 ((List.range m).map (serS ks).c) := fun r hr => by
  obtain ⟨i, hi, rfl⟩ := List.mem_map.mp hr
  have hi' : i < m := List.mem_range.mp hi
  have h1 := (serS_nd ks i).up (Nat.pow_dvd_pow (MS.prd ks) (show i + 1 ≤ 6 by omega))
  have p0 := prd_pos ks
  have h2 := h.prd
  have h3 : MS.prd ks ^ 6 < (2 ^ 16) ^ 6 := Nat.pow_lt_pow_left h2 (by decide)
  have h4 : (2 ^ 16) ^ 6 ≤ 10 ^ 60 := by decide
  have h5 := Nat.le_of_dvd (Nat.pow_pos (Nat.pos_of_ne_zero p0)) (h1.den (Nat.pos_iff_ne_zero.mp (Nat.pow_pos (Nat.pos_of_ne_zero p0))))
  have h6 := (serS_ab h.ab i).num
  omega
theorem e_steps_of {ks : List Rat} (h : St ks) (hk : ks ≠ []) (s : RS) : m_steps_of [.tup (sl (serS ks) ks.length)] s = some (encS ks, s) := by
  cases ks with
  | nil => exact absurd rfl hk
  | cons k suf =>
    have hl := h.len
    simp only [List.length_cons] at hl
    have e0 : sl (serS (k :: suf)) (suf.length + 1) = ((List.range (suf.length + 1)).map (serS (k :: suf)).c).map encR := by unfold sl; rw [List.map_map]; rfl
    have n1 := e_need_steps (ser_ok60 h (m := suf.length + 1) (by omega)) (by simp) (by simp; omega) s
    unfold encS at n1
    rw [← e0] at n1
    have lp := so_loop (o := .val (.tup (sl (serS (k :: suf)) (suf.length + 1)))) (s := s) suf [] 100000 k (by omega) h (by simp; omega)
    rw [List.nil_append, List.map_nil] at lp
    have x0 := sl_at0 (F := serS [(k :: suf).getLast (by simp)]) (m := 1) (by omega)
    rw [ser0] at x0
    have e1 : ((k :: suf).dropLast).map encR ++ [encR ((k :: suf).getLast (by simp))] = (k :: suf).map encR := by
      conv => rhs; rw [← List.dropLast_concat_getLast (show k :: suf ≠ [] by simp), List.map_append]
      rfl
    have st : ∀ x ∈ (k :: suf).map encR, x.st = true := enc_list _
    have ln : ((k :: suf).map encR).length ≤ 1000000 := by simp; omega
    unfold soTest soBody at lp
    unfold m_steps_of g_steps_of encS
    rw [ev_fn]
    rw [List.length_cons]
    generalize sl (serS (k :: suf)) (suf.length + 1) = S at *
    generalize ((k :: suf).dropLast).map encR = T at *
    generalize sl (serS [(k :: suf).getLast (by simp)]) 1 = U at *
    generalize (k :: suf).map encR = V at *
    simp [n1, lp, x0, e1, eq_true st, ln]
end W

namespace W
open DL MS L2
/-! the echo of a stack as a rational function -/
def nd : List Rat → Ser Int × Ser Int
  | [] => (0, 1)
  | k :: ks => (C k.num * (nd ks).2 + C (k.den : Int) * (X * (nd ks).1), C (k.den : Int) * (nd ks).2 + C k.num * (X * (nd ks).1))
theorem nd_size : ∀ (ks : List Rat), St ks → Bs (1 + 4 * ks.length) (nd ks).1 ∧ Bs (1 + 4 * ks.length) (nd ks).2
  | [], _ => ⟨fun n => by rw [nd, zero_c]; exact Sz.zero, fun n => by
      rw [nd, one_c]
      split
      · unfold Sz; decide
      · exact Sz.zero⟩
  | k :: ks, h => by
    obtain ⟨h1, h2⟩ := nd_size ks h.tail
    have d := h.den k List.mem_cons_self
    have b := h.bel k List.mem_cons_self
    have sd : Sz 3 (k.den : Int) := by unfold Sz; omega
    have sn : Sz 3 k.num := by unfold Sz; omega
    have sx : Bs (1 + 4 * ks.length) (X * (nd ks).1) := fun n => by
      cases n with
      | zero => rw [X_mul0]; exact Sz.zero
      | succ n => rw [X_mul]; exact h1 n
    constructor
    · intro n
      rw [nd, add_c, C_mul, C_mul, List.length_cons]
      have a1 := sn.mul (h2 n)
      have a2 := sd.mul (sx n)
      exact (a1.add a2).mono (by omega)
    · intro n
      rw [nd, add_c, C_mul, C_mul, List.length_cons]
      have a1 := sd.mul (h2 n)
      have a2 := sn.mul (sx n)
      exact (a1.add a2).mono (by omega)
theorem nd_dg : ∀ (ks : List Rat), Dg (nd ks).1 ks.length ∧ Dg (nd ks).2 (max ks.length 1)
  | [] => ⟨Dg.zero, fun n hn => by
      have : ¬ n = 0 := by simp at hn; omega
      rw [nd, one_c, if_neg this]⟩
  | k :: ks => by
    obtain ⟨h1, h2⟩ := nd_dg ks
    rw [List.length_cons]
    exact ⟨((h2.smul).mono (by omega)).add ((h1.X.smul).mono (by omega)), ((h2.smul).mono (by omega)).add ((h1.X.smul).mono (by omega))⟩
theorem nd_c0 : ∀ (ks : List Rat), (nd ks).2.c 0 ≠ 0
  | [] => by rw [nd, one_c]; decide
  | k :: ks => by
    have := nd_c0 ks
    rw [nd, add_c, C_mul, C_mul, X_mul0, Int.mul_zero, Int.add_zero]
    exact Int.mul_ne_zero (den_ne k) this
theorem nd_ne (ks : List Rat) : (nd ks).2 ≠ 0 := fun z => nd_c0 ks (by rw [z, zero_c])
theorem room : Room 25 6 := by constructor <;> decide
theorem nd_ex {ks : List Rat} (h : St ks) : EX 25 6 (nd ks).1 (nd ks).2 := by
  have hl := h.len
  obtain ⟨a, b⟩ := nd_size ks h
  obtain ⟨c, d⟩ := nd_dg ks
  exact ⟨a.mono (by omega), b.mono (by omega), c.mono (by omega), d.mono (by omega)⟩
theorem can_one {l : List Int} (t : Tr l) : Can l [1] := ⟨t, fun _ => by simp, by simp, by simp, fun t1 b1 _ p h => by
  have e : P [1] = 1 := by rw [P_cons, P_nil, C_one]; grind
  rw [e] at h
  exact ⟨b1, p, by grind, by rw [e]; grind⟩⟩
theorem P_one : P [1] = 1 := by rw [P_cons, P_nil, C_one]; grind
theorem P_single (a : Int) : P [a] = C a := by rw [P_cons, P_nil]; grind
theorem fr_var : FR [0, 1] [1] X 1 := ⟨can_one fun _ => by simp, by rw [P_cons, P_one, C_zero]; grind, fun z => by have := congrArg (fun f => f.c 0) z; exact absurd this (by decide)⟩
theorem fr_one : FR [1] [1] 1 1 := ⟨can_one fun _ => by simp, by grind, fun z => by have := congrArg (fun f => f.c 0) z; exact absurd this (by decide)⟩
theorem can_frac {n d : Int} (hn : n ≠ 0) (hd : 0 < d) (h : Nat.gcd n.natAbs d.natAbs = 1) : Can [n] [d] := ⟨fun _ => by simpa using hn, fun _ => by simp; omega, by simp, by simpa using hd, fun t1 b1 p1 p2 hx => by
  rw [P_single, P_single] at *
  have ju : ∀ e, Cd e (C n) → Cd e (C d) → e ∣ 1 := fun e h1 h2 => by
    have k1 : e ∣ n := h1 0
    have k2 : e ∣ d := h2 0
    have := Nat.dvd_gcd (Int.natAbs_dvd_natAbs.mpr k1) (Int.natAbs_dvd_natAbs.mpr k2)
    rw [h] at this
    exact Int.natAbs_dvd_natAbs.mp this
  obtain ⟨q, hq, e1, e2⟩ := multiple (t := C n) (b := C d) (u := 0) (v := 1) (k := d) (by omega) Pol.zero Pol.one (by grind) (f := 1) (by rw [C_one]; grind) (by rw [C_one]; grind) ju p1 p2 hx
  exact ⟨q, hq, e1, e2⟩⟩
theorem e_constant (k : Rat) (s : RS) : ∃ t b, m_constant_of [encR k] s = some (encF t b, s) ∧ FR t b (C k.num) (C (k.den : Int)) := by
  by_cases h : k.num = 0
  · refine ⟨[], [1], ?_, can_zero, ?_, C_neI (den_ne k)⟩
    · unfold m_constant_of g_constant_of
      rw [ev_fn]
      unfold encF encL encR d_ZERO
      simp [h]
    · rw [h, P_nil, C_zero]; grind
  · refine ⟨[k.num], [(k.den : Int)], ?_, can_frac h (by have := k.den_nz; omega) ?_, by rw [P_single, P_single], C_neI (den_ne k)⟩
    · unfold m_constant_of g_constant_of
      rw [ev_fn]
      unfold encF encL encR
      simp [h]
    · have := k.reduced
      rw [Int.natAbs_natCast]
      exact this
theorem pl_encF (t b : List Int) : plT 60 (encF t b) = true := by
  have h1 : ∀ l : List Int, plT 59 (encL l) = true := fun l => pls_all fun d hd => by obtain ⟨i, _, rfl⟩ := List.mem_map.mp hd; exact pl_int
  unfold encF
  simp [h1]
theorem eq_zero_no {u v : List Int} (h : u ≠ []) : gEq (encF u v) d_ZERO = some (.bl false) := by
  have e : d_ZERO = encF [] [1] := rfl
  rw [e, gEq_pl (pl_encF u v) (pl_encF [] [1])]
  congr 2
  rw [@decide_eq_false _ (Classical.propDecidable _)]
  intro z
  unfold encF encL at z
  have z1 := D.tup.inj z
  have z2 := D.tup.inj (List.cons.inj z1).1
  cases u with
  | nil => exact h rfl
  | cons a u => cases z2
theorem FR.top_ne {t b : List Int} {N D : Ser Int} (h : FR t b N D) (hN : N ≠ 0) : t ≠ [] := fun z => by
  have := h.eq
  rw [z, P_nil] at this
  exact mul_neI hN h.can.pne (by rw [← this]; grind)
def leTurn : FS := (sSeq (sPar [3, 4] (xsCons (xVal (fCall 1 (fCons (fV 2) fNil) m_constant_of)) (xsCons (xVal (fCall 2 (fCons (fC d_VARIABLE) (fCons (fV 1) fNil)) m_times_of)) xsNil)))
  (sSeq (sSet 5 (xVal (fCall 2 (fCons (fC d_ONE) (fCons (fCall 2 (fCons (fV 3) (fCons (fV 4) fNil)) m_times_of) fNil)) m_plus_of)))
  (sSeq (sIf (bt (f2 (fV 5) (fC d_ZERO) gEq))
  sNo
  sNx)
  (sSet 1 (xVal (fCall 2 (fCons (fCall 2 (fCons (fV 3) (fCons (fV 4) fNil)) m_plus_of) (fCons (fV 5) fNil)) m_over_of))))))
theorem st_encF (t b : List Int) : (encF t b).st = true := rfl
theorem le_turn {o e3 e4 e5 : Sl} {k : Rat} {ks : List Rat} {t b : List Int} (h : St (k :: ks)) (f : FR t b (nd ks).1 (nd ks).2) (s : RS) : ∃ t' b' e3' e4' e5', FR t' b' (nd (k :: ks)).1 (nd (k :: ks)).2 ∧
    leTurn [o, .val (encF t b), .val (encR k), e3, e4, e5] s = .nx [o, .val (encF t' b'), .val (encR k), e3', e4', e5'] s := by
  have hl : ks.length ≤ 5 := by have := h.len; rw [List.length_cons] at this; omega
  obtain ⟨z1, z2⟩ := nd_size ks h.tail
  obtain ⟨g1, g2⟩ := nd_dg ks
  have d := h.den k List.mem_cons_self
  have bl := h.bel k List.mem_cons_self
  have sd : Sz 3 (k.den : Int) := by unfold Sz; omega
  have sn : Sz 3 k.num := by unfold Sz; omega
  have bC : ∀ {z : Int}, Sz 3 z → Bs 25 (C z) := fun {z} hz n => by
    rw [C_c]
    split
    · exact hz.mono (by decide)
    · exact Sz.zero
  have b1 : Bs 25 (1 : Ser Int) := fun n => by
    rw [one_c]
    split
    · unfold Sz; decide
    · exact Sz.zero
  have dg1 : Dg (1 : Ser Int) 6 := fun n hn => by rw [one_c, if_neg (by omega)]
  have bX : Bs 25 (X : Ser Int) := fun n => by
    show Sz 25 (if n = 1 then 1 else 0)
    split
    · unfold Sz; decide
    · exact Sz.zero
  have dgX : Dg (X : Ser Int) 6 := fun n hn => if_neg (by omega)
  have sx : Bs (1 + 4 * ks.length) (X * (nd ks).1) := fun n => by
    cases n with
    | zero => rw [X_mul0]; exact Sz.zero
    | succ n => rw [X_mul]; exact z1 n
  have dx : Dg (X * (nd ks).1) 6 := g1.X.mono (by omega)
  have sm : ∀ {z : Int} {f : Ser Int}, Sz 3 z → Bs (1 + 4 * ks.length) f → Bs 25 (C z * f) := fun {z f} hz hf n => by
    rw [C_mul]
    exact (hz.mul (hf n)).mono (by omega)
  have ne := nd_ne ks
  have dd0 : C (k.den : Int) * (nd ks).2 ≠ 0 := mul_neI (C_neI (den_ne k)) ne
  have D1 := nd_ne (k :: ks)
  have E0 := nd_ex h.tail
  have E1 := nd_ex h
  obtain ⟨th, bh, h1, h2⟩ := e_constant k s
  have Eh : EX 25 6 (C k.num) (C (k.den : Int)) := ⟨bC sn, bC sd, Dg.C.mono (by decide), Dg.C.mono (by decide)⟩
  obtain ⟨tl, bl', l1, l2⟩ := e_times_of room fr_var ⟨bX, b1, dgX, dg1⟩ f E0 s
  have l3 := l2.form (N' := X * (nd ks).1) (D' := (nd ks).2) ne (by grind)
  have El : EX 25 6 (X * (nd ks).1) (nd ks).2 := ⟨sx.mono (by omega), E0.bd, dx, E0.ld⟩
  obtain ⟨tt, bt', t1, t2⟩ := e_times_of room h2 Eh l3 El s
  have Et : EX 25 6 (C k.num * (X * (nd ks).1)) (C (k.den : Int) * (nd ks).2) := ⟨sm sn sx, sm sd z2, dx.smul, E0.ld.smul⟩
  obtain ⟨tb, bb, p1, p2⟩ := e_plus_of room fr_one ⟨b1, b1, dg1, dg1⟩ t2 Et s
  have p3 := p2.form (N' := (nd (k :: ks)).2) (D' := C (k.den : Int) * (nd ks).2) dd0 (by rw [nd]; grind)
  have Eb : EX 25 6 (nd (k :: ks)).2 (C (k.den : Int) * (nd ks).2) := ⟨E1.bd, Et.bd, E1.ld, Et.ld⟩
  obtain ⟨tp, bp, q1, q2⟩ := e_plus_of room h2 Eh l3 El s
  have q3 := q2.form (N' := (nd (k :: ks)).1) (D' := C (k.den : Int) * (nd ks).2) dd0 (by rw [nd]; grind)
  have Ep : EX 25 6 (nd (k :: ks)).1 (C (k.den : Int) * (nd ks).2) := ⟨E1.bn, Et.bd, E1.ln, Et.ld⟩
  obtain ⟨u, v, o1, o2⟩ := e_over_of room q3 Ep p3 Eb D1 s
  have o3 := o2.form (N' := (nd (k :: ks)).1) (D' := (nd (k :: ks)).2) D1 (by grind)
  refine ⟨u, v, .val (encF th bh), .val (encF tl bl'), .val (encF tb bb), o3, ?_⟩
  have zz := eq_zero_no (v := bb) (p3.top_ne D1)
  have vv : d_VARIABLE = encF [0, 1] [1] := rfl
  have oo : d_ONE = encF [1] [1] := rfl
  unfold leTurn
  simp [h1, l1, t1, p1, q1, o1, zz, vv, oo, st_enc, st_encF]
theorem le_loop {o : Sl} {s : RS} : ∀ (rev suf : List Rat) (t b : List Int) (e2 e3 e4 e5 : Sl), St (rev.reverse ++ suf) → FR t b (nd suf).1 (nd suf).2 → notOwn (some e2) = true → ∃ t' b' e2' e3' e4' e5', FR t' b' (nd (rev.reverse ++ suf)).1 (nd (rev.reverse ++ suf)).2 ∧
    sForGo (hName 2) leTurn (rev.map encR) [o, .val (encF t b), e2, e3, e4, e5] s = .nx [o, .val (encF t' b'), e2', e3', e4', e5'] s
  | [], suf, t, b, e2, e3, e4, e5, _, f, _ => ⟨t, b, e2, e3, e4, e5, f, rfl⟩
  | k :: rev, suf, t, b, e2, e3, e4, e5, h, f, he => by
    have er : (k :: rev).reverse ++ suf = rev.reverse ++ (k :: suf) := by simp
    rw [er] at h ⊢
    obtain ⟨t1, b1, f3, f4, f5, f1, f2⟩ := le_turn (o := o) (e3 := e3) (e4 := e4) (e5 := e5) h.suf f s
    obtain ⟨t', b', g2, g3, g4, g5, g1, g6⟩ := le_loop (o := o) (s := s) rev (k :: suf) t1 b1 (.val (encR k)) f3 f4 f5 h f1 rfl
    refine ⟨t', b', g2, g3, g4, g5, g1, ?_⟩
    rw [← g6, List.map_cons, ev_go]
    simp [he, f2]
theorem nd_one (k : Rat) : (nd [k]).1 = C k.num ∧ (nd [k]).2 = C (k.den : Int) := by
  constructor
  · rw [nd, nd]; grind
  · rw [nd, nd]; grind
theorem e_layer_echo {ini : List Rat} {k : Rat} (h : St (ini ++ [k])) (s : RS) : ∃ t b, m_layer_echo [encS (ini ++ [k])] s = some (encF t b, s) ∧ FR t b (nd (ini ++ [k])).1 (nd (ini ++ [k])).2 := by
  have hl := h.len
  have hl' : ini.length ≤ 5 := by rw [List.length_append] at hl; simp at hl; omega
  have n1 := e_need_steps h.ok (by simp) (by omega) s
  obtain ⟨t0, b0, c1, c2⟩ := e_constant k s
  obtain ⟨t, b, e2, e3, e4, e5, f1, f2⟩ := le_loop (o := .val (encS (ini ++ [k]))) (s := s) ini.reverse [k] t0 b0 .no .no .no .no (by rw [List.reverse_reverse]; exact h) (by rw [(nd_one k).1, (nd_one k).2]; exact c2) rfl
  rw [List.reverse_reverse] at f1
  refine ⟨t, b, ?_, f1⟩
  have i1 : ((ini ++ [k]).map encR).dropLast = ini.map encR := by rw [List.map_append]; simp
  have i2 : atI ((ini ++ [k]).map encR) (-1) = some (encR k) := by rw [at_last (by simp)]; simp
  have i6 : stepL (ini.map encR) none none (-1) = ini.reverse.map encR := by rw [step_rev, List.map_reverse]
  have i7 : (ini.reverse.map encR).length ≤ 1000000 := by simp; omega
  unfold leTurn at f2
  unfold m_layer_echo g_layer_echo
  rw [ev_fn]
  unfold encS at *
  generalize (ini ++ [k]).map encR = L at *
  generalize ini.map encR = I at *
  generalize ini.reverse.map encR = J at *
  simp [n1, cut_last, i1, i2, i6, i7, c1, f2, st_enc, st_encF]
  rfl
/-! from whole numbers to fractions -/
def Q (f : Ser Int) : Ser Rat := ⟨fun n => (f.c n : Rat)⟩
theorem Q_add (f g : Ser Int) : Q (f + g) = Q f + Q g := serEq fun n => by
  show ((f.c n + g.c n : Int) : Rat) = _
  rw [Rat.intCast_add]; rfl
theorem mulc_cast : ∀ (n : Nat) (f g : Nat → Int), ((mulc f g n : Int) : Rat) = mulc (fun i => (f i : Rat)) (fun i => (g i : Rat)) n
  | 0, f, g => by rw [mulc_zero, mulc_zero, Rat.intCast_mul]
  | n + 1, f, g => by rw [mulc_succ, mulc_succ, Rat.intCast_add, Rat.intCast_mul, mulc_cast n]
theorem Q_mul (f g : Ser Int) : Q (f * g) = Q f * Q g := serEq fun n => mulc_cast n f.c g.c
theorem Q_C (z : Int) : Q (C z) = C (z : Rat) := serEq fun n => by
  show (((if n = 0 then z else 0 : Int)) : Rat) = if n = 0 then (z : Rat) else 0
  split <;> rfl
theorem Q_X : Q X = X := serEq fun n => by
  show (((if n = 1 then 1 else 0 : Int)) : Rat) = if n = 1 then 1 else 0
  split <;> rfl
theorem Q_one : Q 1 = 1 := by rw [← C_one, Q_C, ← C_one]; rfl
theorem Q_zero : Q 0 = 0 := by rw [← C_zero, Q_C, ← C_zero]; rfl
theorem Q_ne {f : Ser Int} (h : f ≠ 0) : Q f ≠ 0 := fun z => h (serEq fun n => by
  have := congrArg (fun f => f.c n) z
  have h2 : ((f.c n : Int) : Rat) = 0 := by rw [show ((f.c n : Int) : Rat) = (Q f).c n from rfl, z, zero_c]
  rw [zero_c]
  exact Rat.intCast_eq_zero_iff.mp h2)
theorem ser_nd : ∀ (ks : List Rat), serS ks * Q (nd ks).2 = Q (nd ks).1
  | [] => by rw [serS, nd, Q_zero]; grind
  | k :: ks => by
    have ih := ser_nd ks
    have b := bef_eq k (serS ks)
    have hk : C ((k.den : Int) : Rat) * C k = C (k.num : Rat) := by
      rw [C_mulC]
      congr 1
      have := rat_eq k
      have d := den_neQ k
      generalize ((k.den : Int) : Rat) = q at *
      generalize (k.num : Rat) = p at *
      subst this
      grind
    have e1 : Q (nd (k :: ks)).2 = C ((k.den : Int) : Rat) * Q (nd ks).2 + C (k.num : Rat) * (X * Q (nd ks).1) := by rw [nd, Q_add, Q_mul, Q_mul, Q_mul, Q_C, Q_C, Q_X]
    have e2 : Q (nd (k :: ks)).1 = C (k.num : Rat) * Q (nd ks).2 + C ((k.den : Int) : Rat) * (X * Q (nd ks).1) := by rw [nd, Q_add, Q_mul, Q_mul, Q_mul, Q_C, Q_C, Q_X]
    rw [e1, e2, serS, ← ih, ← hk]
    generalize bef k (serS ks) = G at *
    generalize serS ks = F at *
    generalize Q (nd ks).2 = U at *
    generalize C ((k.den : Int) : Rat) = V at *
    grind
theorem fr_ser {ks : List Rat} {t b : List Int} (f : FR t b (nd ks).1 (nd ks).2) : serS ks * Q (P b) = Q (P t) := by
  have h := congrArg Q f.eq
  rw [Q_mul, Q_mul, ← ser_nd] at h
  refine cancelQ (Q_ne (nd_ne ks)) ?_
  grind
theorem fr_len {ks : List Rat} {t b : List Int} (h : St ks) (hk : ks ≠ []) (f : FR t b (nd ks).1 (nd ks).2) : b.length ≤ ks.length ∧ t.length ≤ 6 := by
  have E := nd_ex h
  have l0 : 0 < ks.length := List.length_pos_iff.mpr hk
  obtain ⟨g1, g2⟩ := nd_dg ks
  obtain ⟨q, pq, e1, e2⟩ := f.can.mult _ _ ⟨_, E.ln⟩ ⟨_, E.ld⟩ f.eq.symm
  have hl := h.len
  obtain ⟨f1, _⟩ := factor_bound e2.symm (P_pol b) pq (nd_ne ks) E.bd (g2.mono (show max ks.length 1 ≤ ks.length by omega)) (Nat.le_trans hl (by decide))
  exact ⟨f.can.tb.le f1, (f.bd E room).2.2.1⟩
end W

namespace W
open DL MS L2
theorem ab_of {r : Rat} (h : r.num.natAbs < r.den) : Ab 1 r := by
  have e1 : -(((1 : Nat) : Int) : Rat) = ((-1 : Int) : Rat) := rfl
  constructor
  · rw [e1, Rat.le_iff, Rat.num_intCast, Rat.den_intCast]
    omega
  · rw [Rat.le_iff, Rat.num_intCast, Rat.den_intCast]
    omega
theorem frac_bel {a b : Int} (hb : 0 < b) (h : a.natAbs < b.natAbs) (h6 : b ≤ 6) : (Rat.divInt a b).num.natAbs < (Rat.divInt a b).den ∧ (Rat.divInt a b).den ≤ 6 := by
  have b0 : b ≠ 0 := by omega
  constructor
  · have e : Rat.divInt (Rat.divInt a b).num ((Rat.divInt a b).den : Int) = Rat.divInt a b := Rat.num_divInt_den _
    have e2 := (Rat.divInt_eq_divInt_iff (den_ne _) b0).mp e
    have e3 : (Rat.divInt a b).num.natAbs * b.natAbs = a.natAbs * (Rat.divInt a b).den := by
      rw [← Int.natAbs_mul, e2, Int.natAbs_mul, Int.natAbs_natCast]
    have d := (Rat.divInt a b).den_nz
    generalize (Rat.divInt a b).num.natAbs = x at *
    generalize (Rat.divInt a b).den = y at *
    refine Nat.lt_of_not_le fun z => ?_
    have h1 := Nat.mul_le_mul_right b.natAbs z
    have h2 := Nat.mul_lt_mul_of_pos_right h (Nat.pos_of_ne_zero d)
    rw [Nat.mul_comm b.natAbs y] at h2
    omega
  · rw [Rat.den_divInt, if_neg b0]
    have := Nat.div_le_self b.natAbs (b.gcd a)
    omega
structure Sx (ks : List Rat) : Prop where
  den : ∀ k ∈ ks, k.den ≤ 6
  bel : ∀ k ∈ ks, k.num.natAbs < k.den
theorem ls_loop {o1 : Sl} : ∀ (n : Nat) (lo : Int) (ks : List Rat) (s : RS) (e3 e4 : Sl), Dr s → Sx ks → ks.length + n ≤ 100 → notOwn (some e3) = true → ∃ ks' s' e3' e4', ks'.length = ks.length + n ∧ Sx ks' ∧ Dr s' ∧
    sForGo (hName 3) (sSeq (sSet 4 (xVal (f2 (fC (.int 2)) (fCall 2 (fCons (fV 0) (fCons (fC (.int 5)) fNil)) m_law_taken) gAdd)))
  (sApp 2 (fCall 2 (fCons (f2 (f2 (fCall 2 (fCons (fV 0) (fCons (f2 (f2 (fC (.int 2)) (fV 4) gMul) (fC (.int 1)) DL.gSub) fNil)) m_law_taken) (fV 4) DL.gSub) (fC (.int 1)) gAdd) (fCons (fV 4) fNil)) m_law_ratio))) (rgD lo n)
      [.val .row, o1, .own (ks.map encR), e3, e4] s = .nx [.val .row, o1, .own (ks'.map encR), e3', e4'] s'
  | 0, lo, ks, s, e3, e4, hs, hk, _, _ => ⟨ks, s, e3, e4, by omega, hk, hs, rfl⟩
  | n + 1, lo, ks, s, e3, e4, hs, hk, hl, h3 => by
    obtain ⟨v, s1, v1, v2, v3, v4⟩ := e_taken (m := 5) hs (by decide)
    generalize hb : 2 + v = b
    obtain ⟨w, s2, w1, w2, w3, w4⟩ := e_taken (m := 2 * b - 1) v4 (by omega)
    have r1 := e_law_ratio (a := w - b + 1) (b := b) (by omega) (Sm.mono (n := 3) (by unfold Sm; omega) (by decide)) s2
    obtain ⟨g1, g2⟩ := frac_bel (a := w - b + 1) (b := b) (by omega) (by omega) (by omega)
    obtain ⟨ks', s', e3', e4', k1, k2, k3, k4⟩ := ls_loop (o1 := o1) n (lo + 1) (ks ++ [Rat.divInt (w - b + 1) b]) s2 (.val (.int lo)) (.val (.int b)) w4
      ⟨fun k hk' => by
        rcases List.mem_append.mp hk' with h | h
        · exact hk.den k h
        · rw [List.mem_singleton.mp h]; exact g2, fun k hk' => by
        rcases List.mem_append.mp hk' with h | h
        · exact hk.bel k h
        · rw [List.mem_singleton.mp h]; exact g1⟩ (by rw [List.length_append, List.length_singleton]; omega) rfl
    refine ⟨ks', s', e3', e4', by rw [k1, List.length_append, List.length_singleton]; omega, k2, k3, ?_⟩
    have q : mulOk 2 b = true := mul_ok (n := 2) (m := 3) (by unfold Sm; decide) (by unfold Sm; omega)
    have b4 : ks.length < 1000000 := by omega
    rw [ev_rgD, ev_go, ← k4, List.map_append]
    simp [h3, v1, hb, w1, q, r1, st_enc, b4]
theorem e_law_steps {s : RS} (hs : Dr s) : ∃ ks s', m_law_steps [.row, .int 6] s = some (encS ks, s') ∧ St ks ∧ ks ≠ [] ∧ Dr s' := by
  obtain ⟨v, s1, v1, v2, v3, v4⟩ := e_taken (m := 6) hs (by decide)
  obtain ⟨ks, s', e3, e4, k1, k2, k3, k4⟩ := ls_loop (o1 := .val (.int 6)) (1 + v).toNat 0 [] s1 .no .no v4 ⟨fun k h => by simp at h, fun k h => by simp at h⟩ (by simp; omega) rfl
  refine ⟨ks, s', ?_, ⟨fun k h => ab_of (k2.bel k h), k2.den, k2.bel, by rw [k1]; simp; omega⟩, fun z => ?_, k3⟩
  · have b1 : 1 + v ≤ 2305843009213693952 := by omega
    have b2 : -2305843009213693952 ≤ 1 + v := by omega
    rw [List.map_nil] at k4
    unfold m_law_steps g_law_steps encS
    rw [ev_fn]
    simp [v1, b1, b2, k4]
  · rw [z] at k1
    simp at k1
    omega
theorem ab_mul {x y : Rat} {m n : Nat} (hx : Ab m x) (hy : Ab n y) : Ab (m * n) (x * y) := by
  obtain ⟨a1, a2⟩ := hx
  obtain ⟨b1, b2⟩ := hy
  have e : (((m * n : Nat) : Int) : Rat) = ((m : Int) : Rat) * ((n : Int) : Rat) := by rw [Int.natCast_mul, Rat.intCast_mul]
  show -(((m * n : Nat) : Int) : Rat) ≤ x * y ∧ x * y ≤ (((m * n : Nat) : Int) : Rat)
  rw [e]
  generalize ((m : Int) : Rat) = u at *
  generalize ((n : Int) : Rat) = v at *
  constructor
  · have h1 : 0 ≤ (u + x) * (v + y) := Rat.mul_nonneg (by grind) (by grind)
    have h2 : 0 ≤ (u - x) * (v - y) := Rat.mul_nonneg (by grind) (by grind)
    grind
  · have h1 : 0 ≤ (u + x) * (v - y) := Rat.mul_nonneg (by grind) (by grind)
    have h2 : 0 ≤ (u - x) * (v + y) := Rat.mul_nonneg (by grind) (by grind)
    grind
theorem ab_int {z : Int} {B : Nat} (h : z.natAbs ≤ B) : Ab B (z : Rat) := by
  constructor
  · rw [show -((B : Int) : Rat) = ((-(B : Int) : Int) : Rat) by rw [Rat.intCast_neg]]
    exact Rat.intCast_le_intCast.mpr (by omega)
  · exact Rat.intCast_le_intCast.mpr (by omega)
theorem rz_of {x : Rat} {M B a c : Nat} (h : Dn M x) (hM : M ≠ 0) (hM2 : M < 2 ^ a) (hB : Ab B x) (hB2 : B < 2 ^ c) : Rz (a + c) x := by
  obtain ⟨h1, h2⟩ := size_of h hM hM2 hB hB2
  exact ⟨h1, h2⟩
theorem sd_of {x : Rat} {M a : Nat} (h : Dn M x) (hM : M ≠ 0) (hM2 : M < 2 ^ a) : Sm a x.den := by
  have h1 := Nat.le_of_dvd (by omega) (h.den hM)
  unfold Sm
  rw [Int.natAbs_natCast]
  omega
/-- the sum that the law makes -/
def su (G : Ser Rat) (b : List Int) (a p : Nat) : Rat := sm (fun q => G.c q * (Q (P b)).c (a - q)) p
section
variable {ks : List Rat} {t b : List Int} {m : Nat} {s : RS}
theorem wpow (h : St ks) (n : Nat) : MS.prd ks ^ n ≠ 0 ∧ MS.prd ks ^ n < 2 ^ (16 * n + 1) := by
  refine ⟨Nat.pos_iff_ne_zero.mp (Nat.pow_pos (Nat.pos_of_ne_zero (prd_pos ks))), ?_⟩
  have := Nat.pow_le_pow_left (Nat.le_of_lt h.prd) n
  rw [← Nat.pow_mul] at this
  refine Nat.lt_of_le_of_lt this (Nat.pow_lt_pow_right (by decide) (by omega))
theorem qb_ab (hb : Bd 355 b) (i : Nat) : Ab (2 ^ 355) ((Q (P b)).c i) := ab_int (Nat.le_of_lt (hb.ser i))
theorem qb_dn (i : Nat) {M : Nat} : Dn M ((Q (P b)).c i) := Dn.int _
theorem su_ok (h : St ks) (hb : Bd 355 b) {a : Nat} : ∀ p, p ≤ 9 → Dn (MS.prd ks ^ 9) (su (serS ks) b a p) ∧ Ab (p * 2 ^ 355) (su (serS ks) b a p)
  | 0, _ => ⟨Dn.int 0, Ab.zero⟩
  | p + 1, hp => by
    obtain ⟨h1, h2⟩ := su_ok h hb (a := a) p (by omega)
    constructor
    · refine h1.add ?_
      have := (serS_nd ks p).mul (qb_dn (b := b) (a - p) (M := 1))
      rw [Nat.mul_one] at this
      exact this.up (Nat.pow_dvd_pow _ (by omega))
    · have h3 := ab_mul (serS_ab h.ab p) (qb_ab hb (a - p))
      have h4 := h2.add h3
      rw [show p * 2 ^ 355 + 1 * 2 ^ 355 = (p + 1) * 2 ^ 355 by rw [Nat.add_mul]] at h4
      exact h4
theorem b_at {i : Nat} (h : i < b.length) : (Q (P b)).c i = ((b[i] : Int) : Rat) := by
  show (((P b).c i : Int) : Rat) = _
  rw [P_c, List.getD_eq_getElem?_getD, List.getElem?_eq_getElem h]
  rfl
theorem b_off {i : Nat} (h : b.length ≤ i) : (Q (P b)).c i = 0 := by
  show (((P b).c i : Int) : Rat) = _
  rw [P_dg b i h]
  rfl
theorem enc_int (z : Int) : encR (z : Rat) = .tup [.int z, .int 1] := by
  unfold encR
  rw [Rat.num_intCast, Rat.den_intCast]
  rfl
def lwIn : FS := (sIf (bt (f2 (f2 (fV 6) (fV 8) DL.gSub) (fA1 (fCons (f2 (fV 5) (fC (.int 1)) gIx) fNil) gLen) gLt))
  (sSet 7 (xVal (fCall 2 (fCons (fV 7) (fCons (fCall 2 (fCons (f2 (fV 4) (fV 8) gIx) (fCons (fA1 (fCons (f2 (f2 (fV 5) (fC (.int 1)) gIx) (f2 (fV 6) (fV 8) DL.gSub) gIx) (fCons (fC (.int 1)) fNil)) gTupD) fNil)) m_law_times_ratio) fNil)) m_law_plus_ratio)))
  sNx)
theorem lw_in (h : St ks) (hb : Bd 355 b) {o0 o1 o2 o3 o9 o10 o11 : Sl} {a : Nat} (ha : a < m) (hm : m ≤ 9) : ∀ (n p : Nat) (e8 : Sl), p + n = a + 1 → notOwn (some e8) = true → ∃ e8', notOwn (some e8') = true ∧
    sForGo (hName 8) lwIn (rgD (p : Int) n) [o0, o1, o2, o3, .val (.tup (sl (serS ks) m)), .val (encF t b), .val (.int a), .val (encR (su (serS ks) b a p)), e8, o9, o10, o11] s =
      .nx [o0, o1, o2, o3, .val (.tup (sl (serS ks) m)), .val (encF t b), .val (.int a), .val (encR (su (serS ks) b a (a + 1))), e8', o9, o10, o11] s
  | 0, p, e8, hp, h8 => by
    obtain rfl : p = a + 1 := by omega
    exact ⟨e8, h8, rfl⟩
  | n + 1, p, e8, hp, h8 => by
    obtain ⟨e8', k1, k2⟩ := lw_in h hb (o0 := o0) (o1 := o1) (o2 := o2) (o3 := o3) (o9 := o9) (o10 := o10) (o11 := o11) ha hm n (p + 1) (.val (.int p)) (by omega) rfl
    refine ⟨e8', k1, ?_⟩
    rw [show ((p + 1 : Nat) : Int) = (p : Int) + 1 by omega] at k2
    have es : su (serS ks) b a (p + 1) = su (serS ks) b a p + (serS ks).c p * (Q (P b)).c (a - p) := rfl
    have i2 : (a : Int) - (p : Int) = ((a - p : Nat) : Int) := by omega
    rw [ev_rgD, ev_go, ← k2]
    by_cases hlt : a - p < b.length
    · have x1 := sl_at (F := serS ks) (m := m) (n := p) (by omega)
      have x2 := enc_at hlt
      have eb := b_at hlt
      obtain ⟨w1, w2⟩ := wpow h 9
      obtain ⟨s1, s2⟩ := su_ok h hb (a := a) p (by omega)
      have dG : Dn (MS.prd ks ^ 9) ((serS ks).c p) := (serS_nd ks p).up (Nat.pow_dvd_pow _ (by omega))
      have dm := (serS_nd ks p).mul (qb_dn (b := b) (a - p) (M := 1))
      rw [Nat.mul_one] at dm
      have dM : Dn (MS.prd ks ^ 9) ((serS ks).c p * (Q (P b)).c (a - p)) := dm.up (Nat.pow_dvd_pow _ (by omega))
      have B1 : (1 : Nat) < 2 ^ 360 := Nat.one_lt_two_pow (by decide)
      have B2 : 1 * 2 ^ 355 < 2 ^ 360 := by rw [Nat.one_mul]; exact Nat.pow_lt_pow_right (by decide) (by decide)
      have B3 : p * 2 ^ 355 < 2 ^ 360 := by
        have : p * 2 ^ 355 ≤ 9 * 2 ^ 355 := Nat.mul_le_mul_right _ (by omega)
        have e : 2 ^ 360 = 32 * 2 ^ 355 := by rw [show 360 = 5 + 355 by rfl, Nat.pow_add]
        have p0 : 0 < 2 ^ 355 := Nat.pow_pos (by decide)
        omega
      have B4 : 2 ^ 355 < 2 ^ 360 := Nat.pow_lt_pow_right (by decide) (by decide)
      have z1 := rz_of dG w1 w2 (serS_ab h.ab p) B1
      have z2 := rz_of (qb_dn (b := b) (a - p) (M := MS.prd ks ^ 9)) w1 w2 (qb_ab hb (a - p)) B4
      have z3 := rz_of dM w1 w2 (ab_mul (serS_ab h.ab p) (qb_ab hb (a - p))) B2
      have z4 := rz_of s1 w1 w2 s2 B3
      have d1 := (sd_of dG w1 w2).mono (show 16 * 9 + 1 ≤ 500 by decide)
      have d2 := (sd_of (qb_dn (b := b) (a - p) (M := MS.prd ks ^ 9)) w1 w2).mono (show 16 * 9 + 1 ≤ 500 by decide)
      have d3 := (sd_of dM w1 w2).mono (show 16 * 9 + 1 ≤ 500 by decide)
      have d4 := (sd_of s1 w1 w2).mono (show 16 * 9 + 1 ≤ 500 by decide)
      have y1 := e_law_times z1 z2 (by decide) d1 d2 s
      have y2 := e_law_plus z4 z3 (by decide) d4 d3 s
      rw [eb, enc_int] at y1
      rw [← es] at y2
      rw [eb] at y2
      have hlt' : (a : Int) - p < b.length := by omega
      unfold lwIn encF encL at *
      simp [h8, hlt', hlt, i2, x1, x2, y1, y2, st_enc]
    · have e0 := b_off (b := b) (i := a - p) (by omega)
      rw [e0] at es
      have es' : su (serS ks) b a (p + 1) = su (serS ks) b a p := by rw [es]; grind
      have hlt' : ¬ (a : Int) - p < b.length := by omega
      rw [es']
      unfold lwIn encF encL at *
      simp [h8, hlt']
theorem su_end (f : FR t b (nd ks).1 (nd ks).2) (a : Nat) : su (serS ks) b a (a + 1) = (((P t).c a : Int) : Rat) := by
  have := congrArg (fun g => g.c a) (fr_ser f)
  rw [mul_c, mulc_sm] at this
  exact this
def lwTurn : FS := (sSeq (sSet 7 (xVal (fA1 (fCons (fC (.int 0)) (fCons (fC (.int 1)) fNil)) gTupD)))
  (sSeq (sFor (iRg1 (fCons (f2 (fV 6) (fC (.int 1)) gAdd) fNil)) (hName 8) lwIn)
  (sIf (bt (f2 (fV 7) (fIf (bt (f2 (fV 6) (fA1 (fCons (f2 (fV 5) (fC (.int 0)) gIx) fNil) gLen) gLt)) (fA1 (fCons (f2 (f2 (fV 5) (fC (.int 0)) gIx) (fV 6) gIx) (fCons (fC (.int 1)) fNil)) gTupD) (fA1 (fCons (fC (.int 0)) (fCons (fC (.int 1)) fNil)) gTupD)) gNe))
  (sRet (fC (.bl false)))
  sNx)))
theorem ne_same {x : D} (h : plT 60 x = true) : gNe x x = some (.bl false) := by
  rw [gNe_pl h h]
  congr 2
  rw [@decide_eq_true _ (Classical.propDecidable _) rfl]
  rfl
theorem pl_encR (n : Nat) (r : Rat) : plT (n + 1) (encR r) = true := by unfold encR; simp
theorem rg_lw {a : Nat} (ha : a ≤ 1000) {e0 e1 e2 e3 e4 e5 e7 e8 e9 e10 e11 : Sl} : iRg1 (fCons (f2 (fV 6) (fC (.int 1)) gAdd) fNil) [e0, e1, e2, e3, e4, e5, .val (.int a), e7, e8, e9, e10, e11] s = some (false, rgD 0 (a + 1), s) := by
  have b1 : (a : Int) + 1 ≤ 2305843009213693952 := by omega
  have b2 : -2305843009213693952 ≤ (a : Int) + 1 := by omega
  have b3 : ((a : Int) + 1).toNat = a + 1 := by omega
  simp [b1, b2, b3]
theorem lw_turn (h : St ks) (hb : Bd 355 b) (f : FR t b (nd ks).1 (nd ks).2) {o0 o1 o2 o3 e7 e8 o9 o10 o11 : Sl} {a : Nat} (ha : a < m) (hm : m ≤ 9) (h8 : notOwn (some e8) = true) : ∃ e7' e8', notOwn (some e8') = true ∧
    lwTurn [o0, o1, o2, o3, .val (.tup (sl (serS ks) m)), .val (encF t b), .val (.int a), e7, e8, o9, o10, o11] s = .nx [o0, o1, o2, o3, .val (.tup (sl (serS ks) m)), .val (encF t b), .val (.int a), e7', e8', o9, o10, o11] s := by
  obtain ⟨e8', k1, k2⟩ := lw_in (t := t) (s := s) h hb (o0 := o0) (o1 := o1) (o2 := o2) (o3 := o3) (o9 := o9) (o10 := o10) (o11 := o11) ha hm (a + 1) 0 e8 (by omega) h8
  refine ⟨.val (encR (su (serS ks) b a (a + 1))), e8', k1, ?_⟩
  have z : encR (su (serS ks) b a 0) = .tup [.int 0, .int 1] := rfl
  rw [z] at k2
  have k2' : sForGo (hName 8) lwIn (rgD 0 (a + 1)) [o0, o1, o2, o3, .val (.tup (sl (serS ks) m)), .val (encF t b), .val (.int a), .val (.tup [.int 0, .int 1]), e8, o9, o10, o11] s = _ := k2
  have rg := rg_lw (s := s) (a := a) (by omega) (e0 := o0) (e1 := o1) (e2 := o2) (e3 := o3) (e4 := .val (.tup (sl (serS ks) m))) (e5 := .val (encF t b)) (e7 := .val (.tup [.int 0, .int 1])) (e8 := e8) (e9 := o9) (e10 := o10) (e11 := o11)
  have e := su_end f a
  have sm := ne_same (pl_encR 59 (((P t).c a : Int) : Rat))
  rw [enc_int] at sm
  rw [e, enc_int] at k2' ⊢
  unfold lwTurn
  by_cases hlt : a < t.length
  · have hv : (P t).c a = t[a] := by
      rw [P_c, List.getD_eq_getElem?_getD, List.getElem?_eq_getElem hlt]
      rfl
    rw [hv] at k2' sm ⊢
    have hlt' : (a : Int) < t.length := by omega
    have x := enc_at hlt
    unfold encF encL at *
    simp [-ev_rg1, rg, k2', hlt, hlt', x, sm]
  · have hv : (P t).c a = 0 := P_dg t a (by omega)
    rw [hv] at k2' sm ⊢
    have hlt' : ¬ (a : Int) < t.length := by omega
    unfold encF encL at *
    simp [-ev_rg1, rg, k2', hlt, hlt', sm]
theorem lw_out (h : St ks) (hb : Bd 355 b) (f : FR t b (nd ks).1 (nd ks).2) {o0 o1 o2 o3 o9 o10 o11 : Sl} (hm : m ≤ 9) (e6 e7 e8 : Sl) (h6 : notOwn (some e6) = true) (h8 : notOwn (some e8) = true) : ∃ e6' e7' e8',
    sForGo (hName 6) lwTurn (rgD 0 m) [o0, o1, o2, o3, .val (.tup (sl (serS ks) m)), .val (encF t b), e6, e7, e8, o9, o10, o11] s = .nx [o0, o1, o2, o3, .val (.tup (sl (serS ks) m)), .val (encF t b), e6', e7', e8', o9, o10, o11] s := by
  obtain ⟨env', k1, e6', e7', e8', _, _, k2⟩ := rg_loop (h := hName 6) (g := lwTurn) (s := s) (fun _ env => ∃ e6 e7 e8, notOwn (some e6) = true ∧ notOwn (some e8) = true ∧ env = [o0, o1, o2, o3, .val (.tup (sl (serS ks) m)), .val (encF t b), e6, e7, e8, o9, o10, o11]) m 0 _ ⟨e6, e7, e8, h6, h8, rfl⟩ (fun i env _ hi ⟨e6, e7, e8, h6, h8, he⟩ => by
      obtain ⟨g7, g8, k1, k2⟩ := lw_turn (s := s) h hb f (o0 := o0) (o1 := o1) (o2 := o2) (o3 := o3) (e7 := e7) (o9 := o9) (o10 := o10) (o11 := o11) (a := i) (by omega) hm h8
      subst he
      exact ⟨_, _, by rw [ev_hName, if_pos ⟨by simp, h6⟩]; rfl, k2, .val (.int i), g7, g8, rfl, k1, rfl⟩)
  subst k2
  exact ⟨e6', e7', e8', k1⟩
theorem pw_loop {M : Nat} (hM : M ≠ 0) (hM2 : M < 2 ^ 150) {o0 o1 o2 o3 o4 o5 o6 o7 o8 o9 : Sl} : ∀ (l : List Rat) (x : Rat) (c : Nat) (e : Sl), (∀ r ∈ l, Dn M r ∧ Ab 1 r) → Dn (M * M) x → Ab c x → c + l.length ≤ 100 → notOwn (some e) = true → ∃ e',
    sForGo (hName 11) (sSet 10 (xVal (fCall 2 (fCons (fV 10) (fCons (fCall 2 (fCons (fV 11) (fCons (fV 11) fNil)) m_law_times_ratio) fNil)) m_law_plus_ratio))) (l.map encR) [o0, o1, o2, o3, o4, o5, o6, o7, o8, o9, .val (encR x), e] s =
      .nx [o0, o1, o2, o3, o4, o5, o6, o7, o8, o9, .val (encR (l.foldl (fun a r => a + r * r) x)), e'] s
  | [], x, c, e, _, _, _, _, _ => ⟨e, rfl⟩
  | r :: l, x, c, e, hl, hx, hc, hlen, he => by
    obtain ⟨d1, d2⟩ := hl r List.mem_cons_self
    have mm0 : M * M ≠ 0 := Nat.mul_ne_zero hM hM
    have mm2 : M * M < 2 ^ 300 := by
      have := Nat.mul_lt_mul'' hM2 hM2
      rwa [← Nat.pow_add] at this
    rw [List.length_cons] at hlen
    have ad := hc.add (d2.mul d2)
    obtain ⟨e', k⟩ := pw_loop hM hM2 (o0 := o0) (o1 := o1) (o2 := o2) (o3 := o3) (o4 := o4) (o5 := o5) (o6 := o6) (o7 := o7) (o8 := o8) (o9 := o9) l (x + r * r) (c + 1) (.val (encR r)) (fun q hq => hl q (List.mem_cons_of_mem _ hq)) (hx.add (d1.mul d1)) ad (by omega) rfl
    refine ⟨e', ?_⟩
    have z1 := (rz_of d1 hM hM2 d2 (show 1 < 2 ^ 7 by decide)).mono (show 150 + 7 ≤ 400 by decide)
    have z2 := (rz_of (d1.mul d1) mm0 mm2 (d2.mul d2) (show 1 < 2 ^ 7 by decide)).mono (show 300 + 7 ≤ 400 by decide)
    have z3 := (rz_of hx mm0 mm2 hc (show c < 2 ^ 7 by omega)).mono (show 300 + 7 ≤ 400 by decide)
    have s1 := (sd_of d1 hM hM2).mono (show 150 ≤ 500 by decide)
    have s2 := (sd_of (d1.mul d1) mm0 mm2).mono (show 300 ≤ 500 by decide)
    have s3 := (sd_of hx mm0 mm2).mono (show 300 ≤ 500 by decide)
    have y1 := e_law_times z1 z1 (by decide) s1 s1 s
    have y2 := e_law_plus z3 z2 (by decide) s3 s2 s
    rw [List.map_cons, ev_go]
    rw [List.foldl_cons, ← k]
    simp [he, y1, y2, st_enc]
theorem fold_sq (G : Ser Rat) : ∀ (n : Nat), ((List.range n).map G.c).foldl (fun a r => a + r * r) 0 = sq G n
  | 0 => rfl
  | n + 1 => by
    rw [List.range_succ, List.map_append, List.foldl_append, fold_sq G n]
    rfl
end
end W

namespace W
open PySem PySem.Spec L2 DL
/-! ### the walk -/
section
variable {P : Program} {w : World} {K : PySem.W.Frag} {mg : Str → Option Value} {base : Heap}
abbrev s_constant_of : Stmt := topS 33
theorem sc_constant_of : FnScope ["told"] ["told"] (C8.fnScope s_constant_of) := C8.fnScope_by (by decide +kernel)
theorem ok_constant_of {f : Addr} {fd : FuncData} (F : C8.Def K mg "constant_of" s_constant_of f fd) (b : Binds K fd ["told"] []) (g_ZERO : Glb K mg "ZERO" d_ZERO) : C8.Cal P w K mg base 41 "constant_of" (spF K 1 m_constant_of) [] :=
  mk_fn (k := 40) F b sc_constant_of rfl fun cdv A outer s H E hr => by
    have nd := sc_constant_of.nd; exact (show JSs _ _ g_constant_of from (jss_one (js_ret (je_if (jt_cmp (op_neD hr.units) o_ne (je_ix (jv 0) je_int) je_int (nomark _)) (je_tup (ja_cons (je_tup (ja_cons (je_ix (jv 0) je_int) ja_nil)) (ja_cons (je_tup (ja_cons (je_ix (jv 0) je_int) ja_nil)) ja_nil))) (je_glob g_ZERO (by rfl))))))
abbrev s_trimmed : Stmt := topS 18
theorem sc_trimmed : FnScope ["some", "many"] ["some"] (C8.fnScope s_trimmed) := C8.fnScope_by (by decide +kernel)
theorem ok_trimmed {f : Addr} {fd : FuncData} (F : C8.Def K mg "trimmed" s_trimmed f fd) (b : Binds K fd ["some"] []) (z_len : mg "len" = none) (z_tuple : mg "tuple" = none) : C8.Cal P w K mg base 41 "trimmed" (spF K 1 m_trimmed) [] :=
  mk_fn (k := 40) F b sc_trimmed rfl fun cdv A outer s H E hr => by
    have nd := sc_trimmed.nd; exact (show JSs _ _ g_trimmed from (jss_cons (js_set 1 nd (jx_val (je_callB call_len_seq o_len (by rfl) z_len b_len (ja_cons (jv 0) ja_nil))))
  (jss_cons (js_while 100000 PassesOwn.never (jw (jw_and (jt_cmp op_gt o_gt (jv 1) je_int (nomark _)) (jw_and1 (jt_cmp (op_eqD hr.units) o_eq (je_ix (jv 0) (je_bin op_sub o_sub (jv 1) je_int)) je_int (nomark _)))))
  (jss_one (js_aug 1 ip_sub i_sub je_int nd)))
  (jss_one (js_ret (je_callTy call_tuple_of o_tupof (by rfl) z_tuple b_tuple (ja_cons (je_cut (jv 0) jo_none (jo_some (jv 1))) ja_nil)))))))
abbrev s_poly_plus : Stmt := topS 19
theorem sc_poly_plus : FnScope ["one", "other", "many", "first", "second", "a", "b"] ["one", "other"] (C8.fnScope s_poly_plus) := C8.fnScope_by (by decide +kernel)
theorem ok_poly_plus {f : Addr} {fd : FuncData} (F : C8.Def K mg "poly_plus" s_poly_plus f fd) (b : Binds K fd ["one", "other"] []) (z_max : mg "max" = none) (z_len : mg "len" = none) (z_zip : mg "zip" = none) (c_trimmed : C8.Cal P w K mg base 41 "trimmed" (spF K 1 m_trimmed) []) : C8.Cal P w K mg base 42 "poly_plus" (spF K 2 m_poly_plus) [] :=
  mk_fn (k := 41) F b sc_poly_plus rfl fun cdv A outer s H E hr => by
    have nd := sc_poly_plus.nd; exact (show JSs _ _ g_poly_plus from (jss_cons (js_set 2 nd (jx_val (je_callB (call_max2 rfl) o_max2 (by rfl) z_max b_max (ja_cons (je_callB call_len_seq o_len (by rfl) z_len b_len (ja_cons (jv 0) ja_nil)) (ja_cons (je_callB call_len_seq o_len (by rfl) z_len b_len (ja_cons (jv 1) ja_nil)) ja_nil)))))
  (jss_cons (js_par2 3 4 rfl nd (jxs_cons (jx_val (je_lst (ja_star (jv 0) (ja_star (je_bin op_mulD o_mul (je_lst (ja_cons je_int ja_nil)) (je_bin op_sub o_sub (jv 2) (je_callB call_len_seq o_len (by rfl) z_len b_len (ja_cons (jv 0) ja_nil)))) ja_nil)))) (jxs_cons (jx_val (je_lst (ja_star (jv 1) (ja_star (je_bin op_mulD o_mul (je_lst (ja_cons je_int ja_nil)) (je_bin op_sub o_sub (jv 2) (je_callB call_len_seq o_len (by rfl) z_len b_len (ja_cons (jv 1) ja_nil)))) ja_nil)))) jxs_nil)))
  (jss_one (js_ret (je_call c_trimmed hr (by decide) (by rfl) (ja_cons (je_fr (jf_lc rfl nd (ji_zip (by rfl) z_zip (ja_cons (jv 3) (ja_cons (jv 4) ja_nil))) (blkOk_by (own := [("a", 5), ("b", 6)]) (by rfl)) (fun _ _ _ _ _ => (jg_tup rfl (jgs_cons (jg_name 5 nd) (jgs_cons (jg_name 6 nd) jgs_nil)) rfl rfl (hCons_len (hCons_len (fun _ _ _ => hNil_len))))) (fun _ _ _ _ _ => jts_nil) (fun _ _ _ _ _ => (je_bin op_addD o_add (jv 5) (jv 6))))) ja_nil)))))))
abbrev s_poly_times : Stmt := topS 22
theorem sc_poly_times : FnScope ["one", "other", "found", "at", "a", "place", "b"] ["one", "other"] (C8.fnScope s_poly_times) := C8.fnScope_by (by decide +kernel)
theorem ok_poly_times {f : Addr} {fd : FuncData} (F : C8.Def K mg "poly_times" s_poly_times f fd) (b : Binds K fd ["one", "other"] []) (z_len : mg "len" = none) (z_enumerate : mg "enumerate" = none) (c_trimmed : C8.Cal P w K mg base 41 "trimmed" (spF K 1 m_trimmed) []) : C8.Cal P w K mg base 42 "poly_times" (spF K 2 m_poly_times) [] :=
  mk_fn (k := 41) F b sc_poly_times rfl fun cdv A outer s H E hr => by
    have nd := sc_poly_times.nd; exact (show JSs _ _ g_poly_times from (jss_cons (js_if (jw (jw_or (jt_cmp (op_eqD hr.units) o_eq (jv 0) (je_tup ja_nil) (nomark _)) (jw_or1 (jt_cmp (op_eqD hr.units) o_eq (jv 1) (je_tup ja_nil) (nomark _)))))
  (jss_one (js_ret (je_tup ja_nil)))
  jss_nil)
  (jss_cons (js_set 2 nd (jx_own (jf_rep (je_lst (ja_cons je_int ja_nil)) (je_bin op_sub o_sub (je_bin op_addD o_add (je_callB call_len_seq o_len (by rfl) z_len b_len (ja_cons (jv 0) ja_nil)) (je_callB call_len_seq o_len (by rfl) z_len b_len (ja_cons (jv 1) ja_nil))) je_int))))
  (jss_cons (js_for PassesOwn.never rfl (ji_enum (by rfl) z_enumerate (ja_cons (jv 0) ja_nil)) (jg_tup rfl (jgs_cons (jg_name 3 nd) (jgs_cons (jg_name 4 nd) jgs_nil)) rfl rfl (hCons_len (hCons_len (fun _ _ _ => hNil_len))))
  (jss_one (js_for PassesOwn.never rfl (ji_enum (by rfl) z_enumerate (ja_cons (jv 1) ja_nil)) (jg_tup rfl (jgs_cons (jg_name 5 nd) (jgs_cons (jg_name 6 nd) jgs_nil)) rfl rfl (hCons_len (hCons_len (fun _ _ _ => hNil_len))))
  (jss_one (js_augix 2 ip_add i_add (je_bin op_addD o_add (jv 3) (jv 5)) (je_bin op_mulD o_mul (jv 4) (jv 6)))))))
  (jss_frz 2 (jss_one (js_ret (je_call c_trimmed hr (by decide) (by rfl) (ja_cons (jv 2) ja_nil)))))))))
abbrev s_content : Stmt := topS 23
theorem sc_content : FnScope ["one", "found", "a"] ["one"] (C8.fnScope s_content) := C8.fnScope_by (by decide +kernel)
theorem ok_content {f : Addr} {fd : FuncData} (F : C8.Def K mg "content" s_content f fd) (b : Binds K fd ["one"] []) (g_gcd : mg "gcd" = some (.builtin "math.gcd")) : C8.Cal P w K mg base 41 "content" (spF K 1 m_content) [] :=
  mk_fn (k := 40) F b sc_content rfl fun cdv A outer s H E hr => by
    have nd := sc_content.nd; exact (show JSs _ _ g_content from (jss_cons (js_set 1 nd (jx_val je_int))
  (jss_cons (js_for PassesOwn.never rfl (ji_seq (jv 0)) (jg_name 2 nd)
  (jss_one (js_set 1 nd (jx_val (je_callF cr_gcd o_gcd (by rfl) g_gcd (ja_cons (jv 1) (ja_cons (jv 2) ja_nil)))))))
  (jss_one (js_ret (jv 1))))))
abbrev s_primitive : Stmt := topS 24
theorem sc_primitive : FnScope ["one", "shared", "a"] ["one"] (C8.fnScope s_primitive) := C8.fnScope_by (by decide +kernel)
theorem ok_primitive {f : Addr} {fd : FuncData} (F : C8.Def K mg "primitive" s_primitive f fd) (b : Binds K fd ["one"] []) (z_tuple : mg "tuple" = none) (c_content : C8.Cal P w K mg base 41 "content" (spF K 1 m_content) []) (hS : Sees P base) : C8.Cal P w K mg base 42 "primitive" (spF K 1 m_primitive) [] :=
  mk_fn (k := 41) F b sc_primitive rfl fun cdv A outer s H E hr => by
    have nd := sc_primitive.nd; exact (show JSs _ _ g_primitive from (jss_cons (js_if (jt_cmp (op_eqD hr.units) o_eq (jv 0) (je_tup ja_nil) (nomark _))
  (jss_one (js_ret (je_tup ja_nil)))
  jss_nil)
  (jss_cons (js_set 1 nd (jx_val (je_call c_content hr (by decide) (by rfl) (ja_cons (jv 0) ja_nil))))
  (jss_cons (js_if (jt_cmp op_lt o_lt (je_ix (jv 0) (je_un un_neg o_neg je_int)) je_int (nomark _))
  (jss_one (js_set 1 nd (jx_val (je_un un_neg o_neg (jv 1)))))
  jss_nil)
  (jss_one (js_ret (je_callTy call_tuple_of o_tupof (by rfl) z_tuple b_tuple (ja_cons (je_fr (jf_lc rfl nd (ji_seq (jv 0)) (blkOk_by (own := [("a", 2)]) (by rfl)) (fun _ _ _ _ _ => (jg_name 2 nd)) (fun _ _ _ _ _ => jts_nil) (fun _ _ _ _ _ => (je_bin (op_fdivP (pylOf hS hr sc_primitive)) o_fdiv (jv 2) (jv 1))))) ja_nil))))))))
abbrev s_scaled : Stmt := topS 20
theorem sc_scaled : FnScope ["one", "factor", "a"] ["one", "factor"] (C8.fnScope s_scaled) := C8.fnScope_by (by decide +kernel)
theorem ok_scaled {f : Addr} {fd : FuncData} (F : C8.Def K mg "scaled" s_scaled f fd) (b : Binds K fd ["one", "factor"] []) (c_trimmed : C8.Cal P w K mg base 41 "trimmed" (spF K 1 m_trimmed) []) : C8.Cal P w K mg base 42 "scaled" (spF K 2 m_scaled) [] :=
  mk_fn (k := 41) F b sc_scaled rfl fun cdv A outer s H E hr => by
    have nd := sc_scaled.nd; exact (show JSs _ _ g_scaled from (jss_one (js_ret (je_call c_trimmed hr (by decide) (by rfl) (ja_cons (je_fr (jf_lc rfl nd (ji_seq (jv 0)) (blkOk_by (own := [("a", 2)]) (by rfl)) (fun _ _ _ _ _ => (jg_name 2 nd)) (fun _ _ _ _ _ => jts_nil) (fun _ _ _ _ _ => (je_bin op_mulD o_mul (jv 1) (jv 2))))) ja_nil)))))
abbrev s_poly_minus : Stmt := topS 21
theorem sc_poly_minus : FnScope ["one", "other"] ["one", "other"] (C8.fnScope s_poly_minus) := C8.fnScope_by (by decide +kernel)
theorem ok_poly_minus {f : Addr} {fd : FuncData} (F : C8.Def K mg "poly_minus" s_poly_minus f fd) (b : Binds K fd ["one", "other"] []) (c_poly_plus : C8.Cal P w K mg base 42 "poly_plus" (spF K 2 m_poly_plus) []) (c_scaled : C8.Cal P w K mg base 42 "scaled" (spF K 2 m_scaled) []) : C8.Cal P w K mg base 43 "poly_minus" (spF K 2 m_poly_minus) [] :=
  mk_fn (k := 42) F b sc_poly_minus rfl fun cdv A outer s H E hr => by
    have nd := sc_poly_minus.nd; exact (show JSs _ _ g_poly_minus from (jss_one (js_ret (je_call c_poly_plus hr (by decide) (by rfl) (ja_cons (jv 0) (ja_cons (je_call c_scaled hr (by decide) (by rfl) (ja_cons (jv 1) (ja_cons (je_un un_neg o_neg je_int) ja_nil))) ja_nil))))))
abbrev s_remainder : Stmt := topS 25
theorem sc_remainder : FnScope ["one", "other", "rest", "lead", "shift", "part", "shared", "a"] ["one", "other"] (C8.fnScope s_remainder) := C8.fnScope_by (by decide +kernel)
theorem ok_remainder {f : Addr} {fd : FuncData} (F : C8.Def K mg "remainder" s_remainder f fd) (b : Binds K fd ["one", "other"] []) (z_len : mg "len" = none) (z_abs : mg "abs" = none) (z_tuple : mg "tuple" = none) (c_scaled : C8.Cal P w K mg base 42 "scaled" (spF K 2 m_scaled) []) (c_poly_minus : C8.Cal P w K mg base 43 "poly_minus" (spF K 2 m_poly_minus) []) (c_content : C8.Cal P w K mg base 41 "content" (spF K 1 m_content) []) (hS : Sees P base) : C8.Cal P w K mg base 44 "remainder" (spF K 2 m_remainder) [] :=
  mk_fn (k := 43) F b sc_remainder rfl fun cdv A outer s H E hr => by
    have nd := sc_remainder.nd; exact (show JSs _ _ g_remainder from (jss_cons (js_par2 2 3 rfl nd (jxs_cons (jx_val (jv 0)) (jxs_cons (jx_val (je_ix (jv 1) (je_un un_neg o_neg je_int))) jxs_nil)))
  (jss_cons (js_while 100000 PassesOwn.never (jt_cmp op_ge o_ge (je_callB call_len_seq o_len (by rfl) z_len b_len (ja_cons (jv 2) ja_nil)) (je_callB call_len_seq o_len (by rfl) z_len b_len (ja_cons (jv 1) ja_nil)) (nomark _))
  (jss_cons (js_set 4 nd (jx_val (je_bin op_sub o_sub (je_callB call_len_seq o_len (by rfl) z_len b_len (ja_cons (jv 2) ja_nil)) (je_callB call_len_seq o_len (by rfl) z_len b_len (ja_cons (jv 1) ja_nil)))))
  (jss_cons (js_set 5 nd (jx_val (je_call c_scaled hr (by decide) (by rfl) (ja_cons (je_tup (ja_star (je_bin op_mulD o_mul (je_lst (ja_cons je_int ja_nil)) (jv 4)) (ja_star (jv 1) ja_nil))) (ja_cons (je_if (jt_cmp op_gt o_gt (jv 3) je_int (nomark _)) (je_ix (jv 2) (je_un un_neg o_neg je_int)) (je_un un_neg o_neg (je_ix (jv 2) (je_un un_neg o_neg je_int)))) ja_nil)))))
  (jss_one (js_set 2 nd (jx_val (je_call c_poly_minus hr (by decide) (by rfl) (ja_cons (je_call c_scaled hr (by decide) (by rfl) (ja_cons (jv 2) (ja_cons (je_callB call_abs o_abs (by rfl) z_abs b_abs (ja_cons (jv 3) ja_nil)) ja_nil))) (ja_cons (jv 5) ja_nil)))))))))
  (jss_cons (js_set 6 nd (jx_val (je_call c_content hr (by decide) (by rfl) (ja_cons (jv 2) ja_nil))))
  (jss_one (js_ret (je_if (jt_cmp op_gt o_gt (jv 6) je_int (nomark _)) (je_callTy call_tuple_of o_tupof (by rfl) z_tuple b_tuple (ja_cons (je_fr (jf_lc rfl nd (ji_seq (jv 2)) (blkOk_by (own := [("a", 7)]) (by rfl)) (fun _ _ _ _ _ => (jg_name 7 nd)) (fun _ _ _ _ _ => jts_nil) (fun _ _ _ _ _ => (je_bin (op_fdivP (pylOf hS hr sc_remainder)) o_fdiv (jv 7) (jv 6))))) ja_nil)) (jv 2))))))))
abbrev s_common : Stmt := topS 26
theorem sc_common : FnScope ["one", "other"] ["one", "other"] (C8.fnScope s_common) := C8.fnScope_by (by decide +kernel)
theorem ok_common {f : Addr} {fd : FuncData} (F : C8.Def K mg "common" s_common f fd) (b : Binds K fd ["one", "other"] []) (c_primitive : C8.Cal P w K mg base 42 "primitive" (spF K 1 m_primitive) []) (c_remainder : C8.Cal P w K mg base 44 "remainder" (spF K 2 m_remainder) []) : C8.Cal P w K mg base 45 "common" (spF K 2 m_common) [] :=
  mk_fn (k := 44) F b sc_common rfl fun cdv A outer s H E hr => by
    have nd := sc_common.nd; exact (show JSs _ _ g_common from (jss_cons (js_while 100000 PassesOwn.never (jt_cmp (op_neD hr.units) o_ne (jv 1) (je_tup ja_nil) (nomark _))
  (jss_one (js_par2 0 1 rfl nd (jxs_cons (jx_val (jv 1)) (jxs_cons (jx_val (je_call c_primitive hr (by decide) (by rfl) (ja_cons (je_call c_remainder hr (by decide) (by rfl) (ja_cons (jv 0) (ja_cons (jv 1) ja_nil))) ja_nil))) jxs_nil)))))
  (jss_one (js_ret (je_call c_primitive hr (by decide) (by rfl) (ja_cons (jv 0) ja_nil))))))
abbrev s_quotient : Stmt := topS 27
theorem sc_quotient : FnScope ["one", "other", "rest", "found", "at", "place", "b"] ["one", "other"] (C8.fnScope s_quotient) := C8.fnScope_by (by decide +kernel)
theorem ok_quotient {f : Addr} {fd : FuncData} (F : C8.Def K mg "quotient" s_quotient f fd) (b : Binds K fd ["one", "other"] []) (z_max : mg "max" = none) (z_len : mg "len" = none) (z_list : mg "list" = none) (z_range : mg "range" = none) (z_enumerate : mg "enumerate" = none) (c_trimmed : C8.Cal P w K mg base 41 "trimmed" (spF K 1 m_trimmed) []) (hS : Sees P base) : C8.Cal P w K mg base 42 "quotient" (spF K 2 m_quotient) [] :=
  mk_fn (k := 41) F b sc_quotient rfl fun cdv A outer s H E hr => by
    have nd := sc_quotient.nd; exact (show JSs _ _ g_quotient from (jss_cons (js_par2 2 3 rfl nd (jxs_cons (jx_own (jf_of (by rfl) z_list b_list (ja_cons (jv 0) ja_nil))) (jxs_cons (jx_own (jf_rep (je_lst (ja_cons je_int ja_nil)) (je_callB (call_max2 rfl) o_max2 (by rfl) z_max b_max (ja_cons je_int (ja_cons (je_bin op_addD o_add (je_bin op_sub o_sub (je_callB call_len_seq o_len (by rfl) z_len b_len (ja_cons (jv 0) ja_nil)) (je_callB call_len_seq o_len (by rfl) z_len b_len (ja_cons (jv 1) ja_nil))) je_int) ja_nil))))) jxs_nil)))
  (jss_cons (js_for PassesOwn.never rfl (ji_range3 (by rfl) z_range (ja_cons (je_bin op_sub o_sub (je_callB call_len_seq o_len (by rfl) z_len b_len (ja_cons (jv 3) ja_nil)) je_int) (ja_cons (je_un un_neg o_neg je_int) (ja_cons (je_un un_neg o_neg je_int) ja_nil)))) (jg_name 4 nd)
  (jss_cons (js_setix 3 (je_bin (op_fdivP (pylOf hS hr sc_quotient)) o_fdiv (je_ix (jv 2) (je_bin op_sub o_sub (je_bin op_addD o_add (jv 4) (je_callB call_len_seq o_len (by rfl) z_len b_len (ja_cons (jv 1) ja_nil))) je_int)) (je_ix (jv 1) (je_un un_neg o_neg je_int))) (jv 4))
  (jss_one (js_for PassesOwn.never rfl (ji_enum (by rfl) z_enumerate (ja_cons (jv 1) ja_nil)) (jg_tup rfl (jgs_cons (jg_name 5 nd) (jgs_cons (jg_name 6 nd) jgs_nil)) rfl rfl (hCons_len (hCons_len (fun _ _ _ => hNil_len))))
  (jss_one (js_augix 2 ip_sub i_sub (je_bin op_addD o_add (jv 4) (jv 5)) (je_bin op_mulD o_mul (je_ix (jv 3) (jv 4)) (jv 6))))))))
  (jss_frz 3 (jss_one (js_ret (je_call c_trimmed hr (by decide) (by rfl) (ja_cons (jv 3) ja_nil))))))))
abbrev s_made : Stmt := topS 32
theorem sc_made : FnScope ["top", "bottom", "shared", "factor", "a"] ["top", "bottom"] (C8.fnScope s_made) := C8.fnScope_by (by decide +kernel)
theorem ok_made {f : Addr} {fd : FuncData} (F : C8.Def K mg "made" s_made f fd) (b : Binds K fd ["top", "bottom"] []) (z_tuple : mg "tuple" = none) (g_ZERO : Glb K mg "ZERO" d_ZERO) (g_gcd : mg "gcd" = some (.builtin "math.gcd")) (c_common : C8.Cal P w K mg base 45 "common" (spF K 2 m_common) []) (c_quotient : C8.Cal P w K mg base 42 "quotient" (spF K 2 m_quotient) []) (c_content : C8.Cal P w K mg base 41 "content" (spF K 1 m_content) []) (hS : Sees P base) : C8.Cal P w K mg base 46 "made" (spF K 2 m_made) [] :=
  mk_fn (k := 45) F b sc_made rfl fun cdv A outer s H E hr => by
    have nd := sc_made.nd; exact (show JSs _ _ g_made from (jss_cons (js_if (jt_cmp (op_eqD hr.units) o_eq (jv 0) (je_tup ja_nil) (nomark _))
  (jss_one (js_ret (je_glob g_ZERO (by rfl))))
  jss_nil)
  (jss_cons (js_set 2 nd (jx_val (je_call c_common hr (by decide) (by rfl) (ja_cons (jv 0) (ja_cons (jv 1) ja_nil)))))
  (jss_cons (js_par2 0 1 rfl nd (jxs_cons (jx_val (je_call c_quotient hr (by decide) (by rfl) (ja_cons (jv 0) (ja_cons (jv 2) ja_nil)))) (jxs_cons (jx_val (je_call c_quotient hr (by decide) (by rfl) (ja_cons (jv 1) (ja_cons (jv 2) ja_nil)))) jxs_nil)))
  (jss_cons (js_set 3 nd (jx_val (je_callF cr_gcd o_gcd (by rfl) g_gcd (ja_cons (je_call c_content hr (by decide) (by rfl) (ja_cons (jv 0) ja_nil)) (ja_cons (je_call c_content hr (by decide) (by rfl) (ja_cons (jv 1) ja_nil)) ja_nil)))))
  (jss_cons (js_if (jt_cmp op_lt o_lt (je_ix (jv 1) (je_un un_neg o_neg je_int)) je_int (nomark _))
  (jss_one (js_set 3 nd (jx_val (je_un un_neg o_neg (jv 3)))))
  jss_nil)
  (jss_one (js_ret (je_tup (ja_cons (je_callTy call_tuple_of o_tupof (by rfl) z_tuple b_tuple (ja_cons (je_fr (jf_lc rfl nd (ji_seq (jv 0)) (blkOk_by (own := [("a", 4)]) (by rfl)) (fun _ _ _ _ _ => (jg_name 4 nd)) (fun _ _ _ _ _ => jts_nil) (fun _ _ _ _ _ => (je_bin (op_fdivP (pylOf hS hr sc_made)) o_fdiv (jv 4) (jv 3))))) ja_nil)) (ja_cons (je_callTy call_tuple_of o_tupof (by rfl) z_tuple b_tuple (ja_cons (je_fr (jf_lc rfl nd (ji_seq (jv 1)) (blkOk_by (own := [("a", 4)]) (by rfl)) (fun _ _ _ _ _ => (jg_name 4 nd)) (fun _ _ _ _ _ => jts_nil) (fun _ _ _ _ _ => (je_bin (op_fdivP (pylOf hS hr sc_made)) o_fdiv (jv 4) (jv 3))))) ja_nil)) ja_nil)))))))))))
abbrev s_plus_of : Stmt := topS 34
theorem sc_plus_of : FnScope ["one", "other", "top"] ["one", "other"] (C8.fnScope s_plus_of) := C8.fnScope_by (by decide +kernel)
theorem ok_plus_of {f : Addr} {fd : FuncData} (F : C8.Def K mg "plus_of" s_plus_of f fd) (b : Binds K fd ["one", "other"] []) (c_poly_plus : C8.Cal P w K mg base 42 "poly_plus" (spF K 2 m_poly_plus) []) (c_poly_times : C8.Cal P w K mg base 42 "poly_times" (spF K 2 m_poly_times) []) (c_made : C8.Cal P w K mg base 46 "made" (spF K 2 m_made) []) : C8.Cal P w K mg base 47 "plus_of" (spF K 2 m_plus_of) [] :=
  mk_fn (k := 46) F b sc_plus_of rfl fun cdv A outer s H E hr => by
    have nd := sc_plus_of.nd; exact (show JSs _ _ g_plus_of from (jss_cons (js_set 2 nd (jx_val (je_call c_poly_plus hr (by decide) (by rfl) (ja_cons (je_call c_poly_times hr (by decide) (by rfl) (ja_cons (je_ix (jv 0) je_int) (ja_cons (je_ix (jv 1) je_int) ja_nil))) (ja_cons (je_call c_poly_times hr (by decide) (by rfl) (ja_cons (je_ix (jv 1) je_int) (ja_cons (je_ix (jv 0) je_int) ja_nil))) ja_nil)))))
  (jss_one (js_ret (je_call c_made hr (by decide) (by rfl) (ja_cons (jv 2) (ja_cons (je_call c_poly_times hr (by decide) (by rfl) (ja_cons (je_ix (jv 0) je_int) (ja_cons (je_ix (jv 1) je_int) ja_nil))) ja_nil)))))))
abbrev s_times_of : Stmt := topS 35
theorem sc_times_of : FnScope ["one", "other"] ["one", "other"] (C8.fnScope s_times_of) := C8.fnScope_by (by decide +kernel)
theorem ok_times_of {f : Addr} {fd : FuncData} (F : C8.Def K mg "times_of" s_times_of f fd) (b : Binds K fd ["one", "other"] []) (c_made : C8.Cal P w K mg base 46 "made" (spF K 2 m_made) []) (c_poly_times : C8.Cal P w K mg base 42 "poly_times" (spF K 2 m_poly_times) []) : C8.Cal P w K mg base 47 "times_of" (spF K 2 m_times_of) [] :=
  mk_fn (k := 46) F b sc_times_of rfl fun cdv A outer s H E hr => by
    have nd := sc_times_of.nd; exact (show JSs _ _ g_times_of from (jss_one (js_ret (je_call c_made hr (by decide) (by rfl) (ja_cons (je_call c_poly_times hr (by decide) (by rfl) (ja_cons (je_ix (jv 0) je_int) (ja_cons (je_ix (jv 1) je_int) ja_nil))) (ja_cons (je_call c_poly_times hr (by decide) (by rfl) (ja_cons (je_ix (jv 0) je_int) (ja_cons (je_ix (jv 1) je_int) ja_nil))) ja_nil))))))
abbrev s_back_of : Stmt := topS 36
theorem sc_back_of : FnScope ["one"] ["one"] (C8.fnScope s_back_of) := C8.fnScope_by (by decide +kernel)
theorem ok_back_of {f : Addr} {fd : FuncData} (F : C8.Def K mg "back_of" s_back_of f fd) (b : Binds K fd ["one"] []) (c_made : C8.Cal P w K mg base 46 "made" (spF K 2 m_made) []) : C8.Cal P w K mg base 47 "back_of" (spF K 1 m_back_of) [] :=
  mk_fn (k := 46) F b sc_back_of rfl fun cdv A outer s H E hr => by
    have nd := sc_back_of.nd; exact (show JSs _ _ g_back_of from (jss_one (js_ret (je_call c_made hr (by decide) (by rfl) (ja_cons (je_ix (jv 0) je_int) (ja_cons (je_ix (jv 0) je_int) ja_nil))))))
abbrev s_over_of : Stmt := topS 37
theorem sc_over_of : FnScope ["one", "other"] ["one", "other"] (C8.fnScope s_over_of) := C8.fnScope_by (by decide +kernel)
theorem ok_over_of {f : Addr} {fd : FuncData} (F : C8.Def K mg "over_of" s_over_of f fd) (b : Binds K fd ["one", "other"] []) (c_times_of : C8.Cal P w K mg base 47 "times_of" (spF K 2 m_times_of) []) (c_back_of : C8.Cal P w K mg base 47 "back_of" (spF K 1 m_back_of) []) : C8.Cal P w K mg base 48 "over_of" (spF K 2 m_over_of) [] :=
  mk_fn (k := 47) F b sc_over_of rfl fun cdv A outer s H E hr => by
    have nd := sc_over_of.nd; exact (show JSs _ _ g_over_of from (jss_one (js_ret (je_call c_times_of hr (by decide) (by rfl) (ja_cons (jv 0) (ja_cons (je_call c_back_of hr (by decide) (by rfl) (ja_cons (jv 1) ja_nil)) ja_nil))))))
abbrev s_is_int : Stmt := topS 9
theorem sc_is_int : FnScope ["value"] ["value"] (C8.fnScope s_is_int) := C8.fnScope_by (by decide +kernel)
theorem ok_is_int {f : Addr} {fd : FuncData} (F : C8.Def K mg "is_int" s_is_int f fd) (b : Binds K fd ["value"] []) (z_isinstance : mg "isinstance" = none) (z_int : mg "int" = none) (z_bool : mg "bool" = none) : C8.Cal P w K mg base 41 "is_int" (spF K 1 m_is_int) [] :=
  mk_fn (k := 40) F b sc_is_int rfl fun cdv A outer s H E hr => by
    have nd := sc_is_int.nd; exact (show JSs _ _ g_is_int from (jss_one (js_ret (je_and (je_callB call_isi o_isi (by rfl) z_isinstance b_isinstance (ja_cons (jv 0) (ja_cons (je_ty (by rfl) z_int b_int) ja_nil))) (je_one (je_not (je_callB call_isi o_isi (by rfl) z_isinstance b_isinstance (ja_cons (jv 0) (ja_cons (je_ty (by rfl) z_bool b_bool) ja_nil)))))))))
abbrev s_is_ratio : Stmt := topS 16
theorem sc_is_ratio : FnScope ["value"] ["value"] (C8.fnScope s_is_ratio) := C8.fnScope_by (by decide +kernel)
theorem ok_is_ratio {f : Addr} {fd : FuncData} (F : C8.Def K mg "is_ratio" s_is_ratio f fd) (b : Binds K fd ["value"] []) (z_isinstance : mg "isinstance" = none) (z_tuple : mg "tuple" = none) (z_len : mg "len" = none) (z_abs : mg "abs" = none) (g_MOST_SIZE : Glb K mg "MOST_SIZE" d_MOST_SIZE) (g_gcd : mg "gcd" = some (.builtin "math.gcd")) (c_is_int : C8.Cal P w K mg base 41 "is_int" (spF K 1 m_is_int) []) : C8.Cal P w K mg base 42 "is_ratio" (spF K 1 m_is_ratio) [] :=
  mk_fn (k := 41) F b sc_is_ratio rfl fun cdv A outer s H E hr => by
    have nd := sc_is_ratio.nd; exact (show JSs _ _ g_is_ratio from (jss_cons (js_if (jw (jw_or (jt_not (jt_val (je_callB call_isi o_isi (by rfl) z_isinstance b_isinstance (ja_cons (jv 0) (ja_cons (je_ty (by rfl) z_tuple b_tuple) ja_nil))))) (jw_or (jt_cmp (op_neD hr.units) o_ne (je_callB call_len_seq o_len (by rfl) z_len b_len (ja_cons (jv 0) ja_nil)) je_int (nomark _)) (jw_or (jt_not (jt_val (je_call c_is_int hr (by decide) (by rfl) (ja_cons (je_ix (jv 0) je_int) ja_nil)))) (jw_or1 (jt_not (jt_val (je_call c_is_int hr (by decide) (by rfl) (ja_cons (je_ix (jv 0) je_int) ja_nil)))))))))
  (jss_one (js_ret je_bl))
  jss_nil)
  (jss_cons (js_if (jw (jw_or (jt_cmp op_lt o_lt (je_ix (jv 0) je_int) je_int (nomark _)) (jw_or (jt_cmp op_gt o_gt (je_callB call_abs o_abs (by rfl) z_abs b_abs (ja_cons (je_ix (jv 0) je_int) ja_nil)) (je_glob g_MOST_SIZE (by rfl)) (nomark _)) (jw_or1 (jt_cmp op_gt o_gt (je_ix (jv 0) je_int) (je_glob g_MOST_SIZE (by rfl)) (nomark _))))))
  (jss_one (js_ret je_bl))
  jss_nil)
  (jss_one (js_ret (je_cmp (op_eqD hr.units) o_eq (je_callF cr_gcd o_gcd (by rfl) g_gcd (ja_cons (je_ix (jv 0) je_int) (ja_cons (je_ix (jv 0) je_int) ja_nil))) je_int (nomark _)))))))
abbrev s_need_steps : Stmt := topS 40
theorem sc_need_steps : FnScope ["value", "index", "step"] ["value"] (C8.fnScope s_need_steps) := C8.fnScope_by (by decide +kernel)
theorem ok_need_steps {f : Addr} {fd : FuncData} (F : C8.Def K mg "need_steps" s_need_steps f fd) (b : Binds K fd ["value"] []) (z_isinstance : mg "isinstance" = none) (z_tuple : mg "tuple" = none) (z_len : mg "len" = none) (z_enumerate : mg "enumerate" = none) (g_MOST_STEPS : Glb K mg "MOST_STEPS" d_MOST_STEPS) (c_is_ratio : C8.Cal P w K mg base 42 "is_ratio" (spF K 1 m_is_ratio) []) : C8.Cal P w K mg base 43 "need_steps" (spF K 1 m_need_steps) [] :=
  mk_fn (k := 42) F b sc_need_steps rfl fun cdv A outer s H E hr => by
    have nd := sc_need_steps.nd; exact (show JSs _ _ g_need_steps from (jss_cons (js_if (jw (jw_or (jt_not (jt_val (je_callB call_isi o_isi (by rfl) z_isinstance b_isinstance (ja_cons (jv 0) (ja_cons (je_ty (by rfl) z_tuple b_tuple) ja_nil))))) (jw_or1 (jt_not (jt_chain op_le op_le o_le o_le je_int (je_callB call_len_seq o_len (by rfl) z_len b_len (ja_cons (jv 0) ja_nil)) (je_glob g_MOST_STEPS (by rfl)))))))
  (jss_one js_never)
  jss_nil)
  (jss_one (js_for PassesOwn.never rfl (ji_enum (by rfl) z_enumerate (ja_cons (jv 0) ja_nil)) (jg_tup rfl (jgs_cons (jg_name 1 nd) (jgs_cons (jg_name 2 nd) jgs_nil)) rfl rfl (hCons_len (hCons_len (fun _ _ _ => hNil_len))))
  (jss_one (js_if (jt_not (jt_val (je_call c_is_ratio hr (by decide) (by rfl) (ja_cons (jv 2) ja_nil))))
  (jss_one js_never)
  jss_nil))))))
abbrev s_layer_echo : Stmt := topS 42
theorem sc_layer_echo : FnScope ["steps", "found", "step", "here", "later", "bottom"] ["steps"] (C8.fnScope s_layer_echo) := C8.fnScope_by (by decide +kernel)
theorem ok_layer_echo {f : Addr} {fd : FuncData} (F : C8.Def K mg "layer_echo" s_layer_echo f fd) (b : Binds K fd ["steps"] []) (g_VARIABLE : Glb K mg "VARIABLE" d_VARIABLE) (g_ONE : Glb K mg "ONE" d_ONE) (g_ZERO : Glb K mg "ZERO" d_ZERO) (c_need_steps : C8.Cal P w K mg base 43 "need_steps" (spF K 1 m_need_steps) []) (c_constant_of : C8.Cal P w K mg base 41 "constant_of" (spF K 1 m_constant_of) []) (c_times_of : C8.Cal P w K mg base 47 "times_of" (spF K 2 m_times_of) []) (c_plus_of : C8.Cal P w K mg base 47 "plus_of" (spF K 2 m_plus_of) []) (c_over_of : C8.Cal P w K mg base 48 "over_of" (spF K 2 m_over_of) []) : C8.Cal P w K mg base 49 "layer_echo" (spF K 1 m_layer_echo) [] :=
  mk_fn (k := 48) F b sc_layer_echo rfl fun cdv A outer s H E hr => by
    have nd := sc_layer_echo.nd; exact (show JSs _ _ g_layer_echo from (jss_cons (js_expr (je_call c_need_steps hr (by decide) (by rfl) (ja_cons (jv 0) ja_nil)))
  (jss_cons (js_set 1 nd (jx_val (je_call c_constant_of hr (by decide) (by rfl) (ja_cons (je_ix (jv 0) (je_un un_neg o_neg je_int)) ja_nil))))
  (jss_cons (js_for PassesOwn.never rfl (ji_seq (je_step (je_cut (jv 0) jo_none (jo_some (je_un un_neg o_neg je_int))) jo_none jo_none (je_un un_neg o_neg je_int))) (jg_name 2 nd)
  (jss_cons (js_par2 3 4 rfl nd (jxs_cons (jx_val (je_call c_constant_of hr (by decide) (by rfl) (ja_cons (jv 2) ja_nil))) (jxs_cons (jx_val (je_call c_times_of hr (by decide) (by rfl) (ja_cons (je_glob g_VARIABLE (by rfl)) (ja_cons (jv 1) ja_nil)))) jxs_nil)))
  (jss_cons (js_set 5 nd (jx_val (je_call c_plus_of hr (by decide) (by rfl) (ja_cons (je_glob g_ONE (by rfl)) (ja_cons (je_call c_times_of hr (by decide) (by rfl) (ja_cons (jv 3) (ja_cons (jv 4) ja_nil))) ja_nil)))))
  (jss_cons (js_if (jt_cmp (op_eqD hr.units) o_eq (jv 5) (je_glob g_ZERO (by rfl)) (nomark _))
  (jss_one js_never)
  jss_nil)
  (jss_one (js_set 1 nd (jx_val (je_call c_over_of hr (by decide) (by rfl) (ja_cons (je_call c_plus_of hr (by decide) (by rfl) (ja_cons (jv 3) (ja_cons (jv 4) ja_nil))) (ja_cons (jv 5) ja_nil))))))))))
  (jss_one (js_ret (jv 1)))))))
abbrev s_is_in : Stmt := topS 10
theorem sc_is_in : FnScope ["value", "least", "most"] ["value", "least", "most"] (C8.fnScope s_is_in) := C8.fnScope_by (by decide +kernel)
theorem ok_is_in {f : Addr} {fd : FuncData} (F : C8.Def K mg "is_in" s_is_in f fd) (b : Binds K fd ["value", "least", "most"] []) (c_is_int : C8.Cal P w K mg base 41 "is_int" (spF K 1 m_is_int) []) : C8.Cal P w K mg base 42 "is_in" (spF K 3 m_is_in) [] :=
  mk_fn (k := 41) F b sc_is_in rfl fun cdv A outer s H E hr => by
    have nd := sc_is_in.nd; exact (show JSs _ _ g_is_in from (jss_one (js_ret (je_and (je_call c_is_int hr (by decide) (by rfl) (ja_cons (jv 0) ja_nil)) (je_one (je_chain op_le op_le o_le o_le (jv 1) (jv 0) (jv 2)))))))
abbrev s_is_below : Stmt := topS 41
theorem sc_is_below : FnScope ["step"] ["step"] (C8.fnScope s_is_below) := C8.fnScope_by (by decide +kernel)
theorem ok_is_below {f : Addr} {fd : FuncData} (F : C8.Def K mg "is_below" s_is_below f fd) (b : Binds K fd ["step"] []) (z_abs : mg "abs" = none) : C8.Cal P w K mg base 41 "is_below" (spF K 1 m_is_below) [] :=
  mk_fn (k := 40) F b sc_is_below rfl fun cdv A outer s H E hr => by
    have nd := sc_is_below.nd; exact (show JSs _ _ g_is_below from (jss_one (js_ret (je_cmp op_lt o_lt (je_callB call_abs o_abs (by rfl) z_abs b_abs (ja_cons (je_ix (jv 0) je_int) ja_nil)) (je_ix (jv 0) je_int) (nomark _)))))
abbrev s_ratio : Stmt := topS 11
theorem sc_ratio : FnScope ["top", "bottom", "shared"] ["top", "bottom"] (C8.fnScope s_ratio) := C8.fnScope_by (by decide +kernel)
theorem ok_ratio {f : Addr} {fd : FuncData} (F : C8.Def K mg "ratio" s_ratio f fd) (b : Binds K fd ["top", "bottom"] []) (g_gcd : mg "gcd" = some (.builtin "math.gcd")) (hS : Sees P base) : C8.Cal P w K mg base 41 "ratio" (spF K 2 m_ratio) [] :=
  mk_fn (k := 40) F b sc_ratio rfl fun cdv A outer s H E hr => by
    have nd := sc_ratio.nd; exact (show JSs _ _ g_ratio from (jss_cons (js_set 2 nd (jx_val (je_callF cr_gcd o_gcd (by rfl) g_gcd (ja_cons (jv 0) (ja_cons (jv 1) ja_nil)))))
  (jss_cons (js_if (jt_cmp op_lt o_lt (jv 1) je_int (nomark _))
  (jss_one (js_set 2 nd (jx_val (je_un un_neg o_neg (jv 2)))))
  jss_nil)
  (jss_one (js_ret (je_tup (ja_cons (je_bin (op_fdivP (pylOf hS hr sc_ratio)) o_fdiv (jv 0) (jv 2)) (ja_cons (je_bin (op_fdivP (pylOf hS hr sc_ratio)) o_fdiv (jv 1) (jv 2)) ja_nil))))))))
abbrev s_plus : Stmt := topS 12
theorem sc_plus : FnScope ["one", "other"] ["one", "other"] (C8.fnScope s_plus) := C8.fnScope_by (by decide +kernel)
theorem ok_plus {f : Addr} {fd : FuncData} (F : C8.Def K mg "plus" s_plus f fd) (b : Binds K fd ["one", "other"] []) (c_ratio : C8.Cal P w K mg base 41 "ratio" (spF K 2 m_ratio) []) : C8.Cal P w K mg base 42 "plus" (spF K 2 m_plus) [] :=
  mk_fn (k := 41) F b sc_plus rfl fun cdv A outer s H E hr => by
    have nd := sc_plus.nd; exact (show JSs _ _ g_plus from (jss_one (js_ret (je_call c_ratio hr (by decide) (by rfl) (ja_cons (je_bin op_addD o_add (je_bin op_mulD o_mul (je_ix (jv 0) je_int) (je_ix (jv 1) je_int)) (je_bin op_mulD o_mul (je_ix (jv 1) je_int) (je_ix (jv 0) je_int))) (ja_cons (je_bin op_mulD o_mul (je_ix (jv 0) je_int) (je_ix (jv 1) je_int)) ja_nil))))))
abbrev s_minus : Stmt := topS 13
theorem sc_minus : FnScope ["one", "other"] ["one", "other"] (C8.fnScope s_minus) := C8.fnScope_by (by decide +kernel)
theorem ok_minus {f : Addr} {fd : FuncData} (F : C8.Def K mg "minus" s_minus f fd) (b : Binds K fd ["one", "other"] []) (c_ratio : C8.Cal P w K mg base 41 "ratio" (spF K 2 m_ratio) []) : C8.Cal P w K mg base 42 "minus" (spF K 2 m_minus) [] :=
  mk_fn (k := 41) F b sc_minus rfl fun cdv A outer s H E hr => by
    have nd := sc_minus.nd; exact (show JSs _ _ g_minus from (jss_one (js_ret (je_call c_ratio hr (by decide) (by rfl) (ja_cons (je_bin op_sub o_sub (je_bin op_mulD o_mul (je_ix (jv 0) je_int) (je_ix (jv 1) je_int)) (je_bin op_mulD o_mul (je_ix (jv 1) je_int) (je_ix (jv 0) je_int))) (ja_cons (je_bin op_mulD o_mul (je_ix (jv 0) je_int) (je_ix (jv 1) je_int)) ja_nil))))))
abbrev s_times : Stmt := topS 14
theorem sc_times : FnScope ["one", "other"] ["one", "other"] (C8.fnScope s_times) := C8.fnScope_by (by decide +kernel)
theorem ok_times {f : Addr} {fd : FuncData} (F : C8.Def K mg "times" s_times f fd) (b : Binds K fd ["one", "other"] []) (c_ratio : C8.Cal P w K mg base 41 "ratio" (spF K 2 m_ratio) []) : C8.Cal P w K mg base 42 "times" (spF K 2 m_times) [] :=
  mk_fn (k := 41) F b sc_times rfl fun cdv A outer s H E hr => by
    have nd := sc_times.nd; exact (show JSs _ _ g_times from (jss_one (js_ret (je_call c_ratio hr (by decide) (by rfl) (ja_cons (je_bin op_mulD o_mul (je_ix (jv 0) je_int) (je_ix (jv 1) je_int)) (ja_cons (je_bin op_mulD o_mul (je_ix (jv 0) je_int) (je_ix (jv 1) je_int)) ja_nil))))))
abbrev s_before_step : Stmt := topS 44
theorem sc_before_step : FnScope ["step", "series", "moved", "found", "at", "told", "place"] ["step", "series"] (C8.fnScope s_before_step) := C8.fnScope_by (by decide +kernel)
theorem ok_before_step {f : Addr} {fd : FuncData} (F : C8.Def K mg "before_step" s_before_step f fd) (b : Binds K fd ["step", "series"] []) (z_range : mg "range" = none) (z_len : mg "len" = none) (c_plus : C8.Cal P w K mg base 42 "plus" (spF K 2 m_plus) []) (c_minus : C8.Cal P w K mg base 42 "minus" (spF K 2 m_minus) []) (c_times : C8.Cal P w K mg base 42 "times" (spF K 2 m_times) []) : C8.Cal P w K mg base 43 "before_step" (spF K 2 m_before_step) [] :=
  mk_fn (k := 42) F b sc_before_step rfl fun cdv A outer s H E hr => by
    have nd := sc_before_step.nd; exact (show JSs _ _ g_before_step from (jss_cons (js_set 2 nd (jx_val (je_lst (ja_cons (je_tup (ja_cons je_int (ja_cons je_int ja_nil))) (ja_star (je_cut (jv 1) jo_none (jo_some (je_un un_neg o_neg je_int))) ja_nil)))))
  (jss_cons (js_set 3 nd (jx_own (jf_lst ja_nil)))
  (jss_cons (js_for PassesOwn.never rfl (ji_range1 (by rfl) z_range (ja_cons (je_callB call_len_seq o_len (by rfl) z_len b_len (ja_cons (jv 1) ja_nil)) ja_nil)) (jg_name 4 nd)
  (jss_cons (js_set 5 nd (jx_val (je_if (jt_cmp (op_eqD hr.units) o_eq (jv 4) je_int (nomark _)) (je_call c_plus hr (by decide) (by rfl) (ja_cons (je_ix (jv 2) (jv 4)) (ja_cons (jv 0) ja_nil))) (je_ix (jv 2) (jv 4)))))
  (jss_cons (js_for PassesOwn.never rfl (ji_range2 (by rfl) z_range (ja_cons je_int (ja_cons (je_bin op_addD o_add (jv 4) je_int) ja_nil))) (jg_name 6 nd)
  (jss_one (js_set 5 nd (jx_val (je_call c_minus hr (by decide) (by rfl) (ja_cons (jv 5) (ja_cons (je_call c_times hr (by decide) (by rfl) (ja_cons (je_call c_times hr (by decide) (by rfl) (ja_cons (jv 0) (ja_cons (je_ix (jv 2) (jv 6)) ja_nil))) (ja_cons (je_ix (jv 3) (je_bin op_sub o_sub (jv 4) (jv 6))) ja_nil))) ja_nil)))))))
  (jss_one (js_append 3 (jv 5))))))
  (jss_one (js_ret (jv 3)))))))
abbrev s_echo_series : Stmt := topS 43
theorem sc_echo_series : FnScope ["steps", "many", "found", "step"] ["steps", "many"] (C8.fnScope s_echo_series) := C8.fnScope_by (by decide +kernel)
theorem ok_echo_series {f : Addr} {fd : FuncData} (F : C8.Def K mg "echo_series" s_echo_series f fd) (b : Binds K fd ["steps", "many"] []) (z_all : mg "all" = none) (z_tuple : mg "tuple" = none) (g_MOST_STEPS : Glb K mg "MOST_STEPS" d_MOST_STEPS) (c_need_steps : C8.Cal P w K mg base 43 "need_steps" (spF K 1 m_need_steps) []) (c_is_in : C8.Cal P w K mg base 42 "is_in" (spF K 3 m_is_in) []) (c_is_below : C8.Cal P w K mg base 41 "is_below" (spF K 1 m_is_below) []) (c_before_step : C8.Cal P w K mg base 43 "before_step" (spF K 2 m_before_step) []) : C8.Cal P w K mg base 44 "echo_series" (spF K 2 m_echo_series) [] :=
  mk_fn (k := 43) F b sc_echo_series rfl fun cdv A outer s H E hr => by
    have nd := sc_echo_series.nd; exact (show JSs _ _ g_echo_series from (jss_cons (js_expr (je_call c_need_steps hr (by decide) (by rfl) (ja_cons (jv 0) ja_nil)))
  (jss_cons (js_if (jt_not (jt_val (je_call c_is_in hr (by decide) (by rfl) (ja_cons (jv 1) (ja_cons je_int (ja_cons (je_glob g_MOST_STEPS (by rfl)) ja_nil))))))
  (jss_one js_never)
  jss_nil)
  (jss_cons (js_if (jt_not (jt_val (je_callB (cr_all rfl) o_all (by rfl) z_all b_all (ja_cons (je_fr (jf_lc rfl nd (ji_seq (je_cut (jv 0) jo_none (jo_some (je_un un_neg o_neg je_int)))) (blkOk_by (own := [("step", 3)]) (by rfl)) (fun _ _ _ _ _ => (jg_name 3 nd)) (fun _ _ _ _ _ => jts_nil) (fun _ _ _ _ _ => (je_call c_is_below hr (by decide) (by rfl) (ja_cons (jv 3) ja_nil))))) ja_nil))))
  (jss_one js_never)
  jss_nil)
  (jss_cons (js_set 2 nd (jx_val (je_lst (ja_cons (je_ix (jv 0) (je_un un_neg o_neg je_int)) (ja_star (je_bin op_mulD o_mul (je_lst (ja_cons (je_tup (ja_cons je_int (ja_cons je_int ja_nil))) ja_nil)) (je_bin op_sub o_sub (jv 1) je_int)) ja_nil)))))
  (jss_cons (js_for PassesOwn.never rfl (ji_seq (je_step (je_cut (jv 0) jo_none (jo_some (je_un un_neg o_neg je_int))) jo_none jo_none (je_un un_neg o_neg je_int))) (jg_name 3 nd)
  (jss_one (js_set 2 nd (jx_val (je_call c_before_step hr (by decide) (by rfl) (ja_cons (jv 3) (ja_cons (jv 2) ja_nil)))))))
  (jss_one (js_ret (je_callTy call_tuple_of o_tupof (by rfl) z_tuple b_tuple (ja_cons (jv 2) ja_nil))))))))))
abbrev s_over : Stmt := topS 15
theorem sc_over : FnScope ["one", "other"] ["one", "other"] (C8.fnScope s_over) := C8.fnScope_by (by decide +kernel)
theorem ok_over {f : Addr} {fd : FuncData} (F : C8.Def K mg "over" s_over f fd) (b : Binds K fd ["one", "other"] []) (c_ratio : C8.Cal P w K mg base 41 "ratio" (spF K 2 m_ratio) []) : C8.Cal P w K mg base 42 "over" (spF K 2 m_over) [] :=
  mk_fn (k := 41) F b sc_over rfl fun cdv A outer s H E hr => by
    have nd := sc_over.nd; exact (show JSs _ _ g_over from (jss_one (js_ret (je_call c_ratio hr (by decide) (by rfl) (ja_cons (je_bin op_mulD o_mul (je_ix (jv 0) je_int) (je_ix (jv 1) je_int)) (ja_cons (je_bin op_mulD o_mul (je_ix (jv 0) je_int) (je_ix (jv 1) je_int)) ja_nil))))))
abbrev s_behind_step : Stmt := topS 45
theorem sc_behind_step : FnScope ["series", "step", "found", "whole", "at", "told", "place"] ["series"] (C8.fnScope s_behind_step) := C8.fnScope_by (by decide +kernel)
theorem ok_behind_step {f : Addr} {fd : FuncData} (F : C8.Def K mg "behind_step" s_behind_step f fd) (b : Binds K fd ["series"] []) (z_range : mg "range" = none) (z_len : mg "len" = none) (c_minus : C8.Cal P w K mg base 42 "minus" (spF K 2 m_minus) []) (c_times : C8.Cal P w K mg base 42 "times" (spF K 2 m_times) []) (c_plus : C8.Cal P w K mg base 42 "plus" (spF K 2 m_plus) []) (c_over : C8.Cal P w K mg base 42 "over" (spF K 2 m_over) []) : C8.Cal P w K mg base 43 "behind_step" (spF K 1 m_behind_step) [] :=
  mk_fn (k := 42) F b sc_behind_step rfl fun cdv A outer s H E hr => by
    have nd := sc_behind_step.nd; exact (show JSs _ _ g_behind_step from (jss_cons (js_par2 1 2 rfl nd (jxs_cons (jx_val (je_ix (jv 0) je_int)) (jxs_cons (jx_own (jf_lst ja_nil)) jxs_nil)))
  (jss_cons (js_set 3 nd (jx_val (je_call c_minus hr (by decide) (by rfl) (ja_cons (je_tup (ja_cons je_int (ja_cons je_int ja_nil))) (ja_cons (je_call c_times hr (by decide) (by rfl) (ja_cons (jv 1) (ja_cons (jv 1) ja_nil))) ja_nil)))))
  (jss_cons (js_for PassesOwn.never rfl (ji_range2 (by rfl) z_range (ja_cons je_int (ja_cons (je_callB call_len_seq o_len (by rfl) z_len b_len (ja_cons (jv 0) ja_nil)) ja_nil))) (jg_name 4 nd)
  (jss_cons (js_set 5 nd (jx_val (je_ix (jv 0) (jv 4))))
  (jss_cons (js_for PassesOwn.never rfl (ji_range2 (by rfl) z_range (ja_cons je_int (ja_cons (jv 4) ja_nil))) (jg_name 6 nd)
  (jss_one (js_set 5 nd (jx_val (je_call c_plus hr (by decide) (by rfl) (ja_cons (jv 5) (ja_cons (je_call c_times hr (by decide) (by rfl) (ja_cons (je_call c_times hr (by decide) (by rfl) (ja_cons (jv 1) (ja_cons (je_ix (jv 0) (jv 6)) ja_nil))) (ja_cons (je_ix (jv 2) (je_bin op_sub o_sub (je_bin op_sub o_sub (jv 4) (jv 6)) je_int)) ja_nil))) ja_nil)))))))
  (jss_one (js_append 2 (je_call c_over hr (by decide) (by rfl) (ja_cons (jv 5) (ja_cons (jv 3) ja_nil))))))))
  (jss_one (js_ret (jv 2)))))))
abbrev s_steps_of : Stmt := topS 46
theorem sc_steps_of : FnScope ["series", "found", "rest"] ["series"] (C8.fnScope s_steps_of) := C8.fnScope_by (by decide +kernel)
theorem ok_steps_of {f : Addr} {fd : FuncData} (F : C8.Def K mg "steps_of" s_steps_of f fd) (b : Binds K fd ["series"] []) (z_list : mg "list" = none) (z_len : mg "len" = none) (c_need_steps : C8.Cal P w K mg base 43 "need_steps" (spF K 1 m_need_steps) []) (c_is_below : C8.Cal P w K mg base 41 "is_below" (spF K 1 m_is_below) []) (c_behind_step : C8.Cal P w K mg base 43 "behind_step" (spF K 1 m_behind_step) []) : C8.Cal P w K mg base 44 "steps_of" (spF K 1 m_steps_of) [] :=
  mk_fn (k := 43) F b sc_steps_of rfl fun cdv A outer s H E hr => by
    have nd := sc_steps_of.nd; exact (show JSs _ _ g_steps_of from (jss_cons (js_expr (je_call c_need_steps hr (by decide) (by rfl) (ja_cons (jv 0) ja_nil)))
  (jss_cons (js_par2 1 2 rfl nd (jxs_cons (jx_own (jf_lst ja_nil)) (jxs_cons (jx_val (je_callTy call_list_of o_lstof (by rfl) z_list b_list (ja_cons (jv 0) ja_nil))) jxs_nil)))
  (jss_cons (js_while 100000 PassesOwn.never (jt_cmp op_gt o_gt (je_callB call_len_seq o_len (by rfl) z_len b_len (ja_cons (jv 2) ja_nil)) je_int (nomark _))
  (jss_cons (js_if (jt_not (jt_val (je_call c_is_below hr (by decide) (by rfl) (ja_cons (je_ix (jv 2) je_int) ja_nil))))
  (jss_one (js_ret je_non))
  jss_nil)
  (jss_cons (js_append 1 (je_ix (jv 2) je_int))
  (jss_one (js_set 2 nd (jx_val (je_call c_behind_step hr (by decide) (by rfl) (ja_cons (jv 2) ja_nil))))))))
  (jss_one (js_ret (je_tup (ja_star (jv 1) (ja_cons (je_ix (jv 2) je_int) ja_nil)))))))))
abbrev s_law_taken : Stmt := topS 48
theorem sc_law_taken : FnScope ["_law_row", "_law_many", "_law_found", "_law_cell"] ["_law_row", "_law_many"] (C8.fnScope s_law_taken) := C8.fnScope_by (by decide +kernel)
theorem ok_law_taken {f : Addr} {fd : FuncData} (F : C8.Def K mg "_law_taken" s_law_taken f fd) (b : Binds K fd ["_law_row", "_law_many"] []) (z_int : mg "int" = none) (z_len : mg "len" = none) (hS : Sees P base) : C8.Cal P w K mg base 41 "_law_taken" (spF K 2 m_law_taken) [] :=
  mk_fn (k := 40) F b sc_law_taken rfl fun cdv A outer s H E hr => by
    have nd := sc_law_taken.nd; exact (show JSs _ _ g_law_taken from (jss_cons (js_if (jt_cmp op_gt o_gt (je_row 0) je_int (nomark _))
  (jss_cons (js_set 2 nd (jx_val (je_bin op_modN o_mod (je_callTy call_int1 o_intc (by rfl) z_int b_int (ja_cons (je_row 0) ja_nil)) (jv 1))))
  (jss_cons (js_row 0 (je_bin (op_fdivP (pylOf hS hr sc_law_taken)) o_fdiv (je_row 0) (jv 1)))
  (jss_one (js_ret (jv 2)))))
  jss_nil)
  (jss_cons (js_row 0 (je_bin op_addD o_add (je_row 0) je_int))
  (jss_cons (js_if (jt_cmp op_gt o_gt (je_row 0) (je_rowlen 0 (by rfl) z_len b_len) (nomark _))
  (jss_cons (js_row 0 (je_bin op_modN o_mod (je_callTy call_int1 o_intc (by rfl) z_int b_int (ja_cons (je_bin op_addD o_add (je_bin op_mulD o_mul (je_row 0) je_int) je_int) ja_nil)) je_int))
  (jss_one (js_ret (je_bin op_modN o_mod (je_callTy call_int1 o_intc (by rfl) z_int b_int (ja_cons (je_bin (op_fdivP (pylOf hS hr sc_law_taken)) o_fdiv (je_row 0) je_int) ja_nil)) (jv 1)))))
  jss_nil)
  (jss_cons (js_set 3 nd (jx_val (je_rowat 0 (je_bin op_sub o_sub (je_row 0) je_int))))
  (jss_cons (js_row 0 (je_bin op_modN o_mod (je_callTy call_int1 o_intc (by rfl) z_int b_int (ja_cons (je_bin op_addD o_add (je_bin op_addD o_add (je_bin op_mulD o_mul (je_row 0) je_int) (jv 3)) je_int) ja_nil)) je_int))
  (jss_cons (js_if (jt_cmp op_ge o_ge (jv 3) (je_bin op_pow o_pow je_int je_int) (nomark _))
  (jss_one (js_row 0 (je_bin (op_fdivP (pylOf hS hr sc_law_taken)) o_fdiv (jv 3) (jv 1))))
  jss_nil)
  (jss_one (js_ret (je_bin op_modN o_mod (je_callTy call_int1 o_intc (by rfl) z_int b_int (ja_cons (jv 3) ja_nil)) (jv 1)))))))))))
abbrev s_law_shared : Stmt := topS 49
theorem sc_law_shared : FnScope ["_law_one", "_law_other", "_law_turn"] ["_law_one", "_law_other"] (C8.fnScope s_law_shared) := C8.fnScope_by (by decide +kernel)
theorem ok_law_shared {f : Addr} {fd : FuncData} (F : C8.Def K mg "_law_shared" s_law_shared f fd) (b : Binds K fd ["_law_one", "_law_other"] []) (z_abs : mg "abs" = none) (z_range : mg "range" = none) (z_int : mg "int" = none) : C8.Cal P w K mg base 41 "_law_shared" (spF K 2 m_law_shared) [] :=
  mk_fn (k := 40) F b sc_law_shared rfl fun cdv A outer s H E hr => by
    have nd := sc_law_shared.nd; exact (show JSs _ _ g_law_shared from (jss_cons (js_par2 0 1 rfl nd (jxs_cons (jx_val (je_callB call_abs o_abs (by rfl) z_abs b_abs (ja_cons (jv 0) ja_nil))) (jxs_cons (jx_val (je_callB call_abs o_abs (by rfl) z_abs b_abs (ja_cons (jv 1) ja_nil))) jxs_nil)))
  (jss_cons (js_for PassesOwn.never rfl (ji_range1 (by rfl) z_range (ja_cons je_int ja_nil)) (jg_name 2 nd)
  (jss_cons (js_if (jt_cmp (op_eqD hr.units) o_eq (jv 1) je_int (nomark _))
  (jss_one js_break)
  jss_nil)
  (jss_one (js_par2 0 1 rfl nd (jxs_cons (jx_val (jv 1)) (jxs_cons (jx_val (je_bin op_modN o_mod (je_callTy call_int1 o_intc (by rfl) z_int b_int (ja_cons (jv 0) ja_nil)) (jv 1))) jxs_nil))))))
  (jss_one (js_ret (jv 0))))))
abbrev s_law_ratio : Stmt := topS 50
theorem sc_law_ratio : FnScope ["_law_top", "_law_bottom", "_law_shared_here"] ["_law_top", "_law_bottom"] (C8.fnScope s_law_ratio) := C8.fnScope_by (by decide +kernel)
theorem ok_law_ratio {f : Addr} {fd : FuncData} (F : C8.Def K mg "_law_ratio" s_law_ratio f fd) (b : Binds K fd ["_law_top", "_law_bottom"] []) (c_law_shared : C8.Cal P w K mg base 41 "_law_shared" (spF K 2 m_law_shared) []) (hS : Sees P base) : C8.Cal P w K mg base 42 "_law_ratio" (spF K 2 m_law_ratio) [] :=
  mk_fn (k := 41) F b sc_law_ratio rfl fun cdv A outer s H E hr => by
    have nd := sc_law_ratio.nd; exact (show JSs _ _ g_law_ratio from (jss_cons (js_set 2 nd (jx_val (je_call c_law_shared hr (by decide) (by rfl) (ja_cons (jv 0) (ja_cons (jv 1) ja_nil)))))
  (jss_cons (js_if (jt_cmp op_lt o_lt (jv 1) je_int (nomark _))
  (jss_one (js_set 2 nd (jx_val (je_un un_neg o_neg (jv 2)))))
  jss_nil)
  (jss_one (js_ret (je_tup (ja_cons (je_bin (op_fdivP (pylOf hS hr sc_law_ratio)) o_fdiv (jv 0) (jv 2)) (ja_cons (je_bin (op_fdivP (pylOf hS hr sc_law_ratio)) o_fdiv (jv 1) (jv 2)) ja_nil))))))))
abbrev s_law_plus_ratio : Stmt := topS 51
theorem sc_law_plus_ratio : FnScope ["_law_one", "_law_other"] ["_law_one", "_law_other"] (C8.fnScope s_law_plus_ratio) := C8.fnScope_by (by decide +kernel)
theorem ok_law_plus_ratio {f : Addr} {fd : FuncData} (F : C8.Def K mg "_law_plus_ratio" s_law_plus_ratio f fd) (b : Binds K fd ["_law_one", "_law_other"] []) (c_law_ratio : C8.Cal P w K mg base 42 "_law_ratio" (spF K 2 m_law_ratio) []) : C8.Cal P w K mg base 43 "_law_plus_ratio" (spF K 2 m_law_plus_ratio) [] :=
  mk_fn (k := 42) F b sc_law_plus_ratio rfl fun cdv A outer s H E hr => by
    have nd := sc_law_plus_ratio.nd; exact (show JSs _ _ g_law_plus_ratio from (jss_one (js_ret (je_call c_law_ratio hr (by decide) (by rfl) (ja_cons (je_bin op_addD o_add (je_bin op_mulD o_mul (je_ix (jv 0) je_int) (je_ix (jv 1) je_int)) (je_bin op_mulD o_mul (je_ix (jv 1) je_int) (je_ix (jv 0) je_int))) (ja_cons (je_bin op_mulD o_mul (je_ix (jv 0) je_int) (je_ix (jv 1) je_int)) ja_nil))))))
abbrev s_law_times_ratio : Stmt := topS 52
theorem sc_law_times_ratio : FnScope ["_law_one", "_law_other"] ["_law_one", "_law_other"] (C8.fnScope s_law_times_ratio) := C8.fnScope_by (by decide +kernel)
theorem ok_law_times_ratio {f : Addr} {fd : FuncData} (F : C8.Def K mg "_law_times_ratio" s_law_times_ratio f fd) (b : Binds K fd ["_law_one", "_law_other"] []) (c_law_ratio : C8.Cal P w K mg base 42 "_law_ratio" (spF K 2 m_law_ratio) []) : C8.Cal P w K mg base 43 "_law_times_ratio" (spF K 2 m_law_times_ratio) [] :=
  mk_fn (k := 42) F b sc_law_times_ratio rfl fun cdv A outer s H E hr => by
    have nd := sc_law_times_ratio.nd; exact (show JSs _ _ g_law_times_ratio from (jss_one (js_ret (je_call c_law_ratio hr (by decide) (by rfl) (ja_cons (je_bin op_mulD o_mul (je_ix (jv 0) je_int) (je_ix (jv 1) je_int)) (ja_cons (je_bin op_mulD o_mul (je_ix (jv 0) je_int) (je_ix (jv 1) je_int)) ja_nil))))))
abbrev s_law_less_ratio : Stmt := topS 53
theorem sc_law_less_ratio : FnScope ["_law_one", "_law_other"] ["_law_one", "_law_other"] (C8.fnScope s_law_less_ratio) := C8.fnScope_by (by decide +kernel)
theorem ok_law_less_ratio {f : Addr} {fd : FuncData} (F : C8.Def K mg "_law_less_ratio" s_law_less_ratio f fd) (b : Binds K fd ["_law_one", "_law_other"] [])  : C8.Cal P w K mg base 41 "_law_less_ratio" (spF K 2 m_law_less_ratio) [] :=
  mk_fn (k := 40) F b sc_law_less_ratio rfl fun cdv A outer s H E hr => by
    have nd := sc_law_less_ratio.nd; exact (show JSs _ _ g_law_less_ratio from (jss_one (js_ret (je_cmp op_lt o_lt (je_bin op_mulD o_mul (je_ix (jv 0) je_int) (je_ix (jv 1) je_int)) (je_bin op_mulD o_mul (je_ix (jv 1) je_int) (je_ix (jv 0) je_int)) (nomark _)))))
abbrev s_law_steps : Stmt := topS 54
theorem sc_law_steps : FnScope ["_law_row", "_law_most", "_law_found", "_law_at", "_law_bottom"] ["_law_row", "_law_most"] (C8.fnScope s_law_steps) := C8.fnScope_by (by decide +kernel)
theorem ok_law_steps {f : Addr} {fd : FuncData} (F : C8.Def K mg "_law_steps" s_law_steps f fd) (b : Binds K fd ["_law_row", "_law_most"] []) (z_range : mg "range" = none) (z_tuple : mg "tuple" = none) (c_law_taken : C8.Cal P w K mg base 41 "_law_taken" (spF K 2 m_law_taken) []) (c_law_ratio : C8.Cal P w K mg base 42 "_law_ratio" (spF K 2 m_law_ratio) []) : C8.Cal P w K mg base 43 "_law_steps" (spF K 2 m_law_steps) [] :=
  mk_fn (k := 42) F b sc_law_steps rfl fun cdv A outer s H E hr => by
    have nd := sc_law_steps.nd; exact (show JSs _ _ g_law_steps from (jss_cons (js_set 2 nd (jx_own (jf_lst ja_nil)))
  (jss_cons (js_for PassesOwn.never rfl (ji_range1 (by rfl) z_range (ja_cons (je_bin op_addD o_add je_int (je_call c_law_taken hr (by decide) (by rfl) (ja_cons (jv 0) (ja_cons (jv 1) ja_nil)))) ja_nil)) (jg_name 3 nd)
  (jss_cons (js_set 4 nd (jx_val (je_bin op_addD o_add je_int (je_call c_law_taken hr (by decide) (by rfl) (ja_cons (jv 0) (ja_cons je_int ja_nil))))))
  (jss_one (js_append 2 (je_call c_law_ratio hr (by decide) (by rfl) (ja_cons (je_bin op_addD o_add (je_bin op_sub o_sub (je_call c_law_taken hr (by decide) (by rfl) (ja_cons (jv 0) (ja_cons (je_bin op_sub o_sub (je_bin op_mulD o_mul je_int (jv 4)) je_int) ja_nil))) (jv 4)) je_int) (ja_cons (jv 4) ja_nil)))))))
  (jss_one (js_ret (je_callTy call_tuple_of o_tupof (by rfl) z_tuple b_tuple (ja_cons (jv 2) ja_nil)))))))
abbrev s_law : Stmt := topS 55
theorem sc_law : FnScope ["_law_script", "_law_row", "_law_steps_here", "_law_many", "_law_told", "_law_one", "_law_at", "_law_total", "_law_place", "_law_whole", "_law_power", "_law_number"] ["_law_script"] (C8.fnScope s_law) := C8.fnScope_by (by decide +kernel)
theorem ok_law {f : Addr} {fd : FuncData} (F : C8.Def K mg "law" s_law f fd) (z_isinstance : mg "isinstance" = none) (z_tuple : mg "tuple" = none) (z_len : mg "len" = none) (z_range : mg "range" = none) (c_law_taken : C8.Cal P w K mg base 41 "_law_taken" (spF K 2 m_law_taken) []) (c_law_steps : C8.Cal P w K mg base 43 "_law_steps" (spF K 2 m_law_steps) []) (c_layer_echo : C8.Cal P w K mg base 49 "layer_echo" (spF K 1 m_layer_echo) []) (c_echo_series : C8.Cal P w K mg base 44 "echo_series" (spF K 2 m_echo_series) []) (c_law_plus_ratio : C8.Cal P w K mg base 43 "_law_plus_ratio" (spF K 2 m_law_plus_ratio) []) (c_law_times_ratio : C8.Cal P w K mg base 43 "_law_times_ratio" (spF K 2 m_law_times_ratio) []) (c_steps_of : C8.Cal P w K mg base 44 "steps_of" (spF K 1 m_steps_of) []) (c_law_less_ratio : C8.Cal P w K mg base 41 "_law_less_ratio" (spF K 2 m_law_less_ratio) []) (hlaw : ∀ ns : List Int, ns.length ≤ 63 → ∃ s', g_law (lawEnv 10) ⟨ns, 0, 3392, 0⟩ = .ret (.bl true) s') :
  FnOk P w K mg base C8.CX0 50 f fd ["_law_script"] (spLaw K) :=
  mk_law (k := 49) F sc_law rfl (fun cdv A outer s H E hr => by
    have nd := sc_law.nd; exact pss_cons (ps_set (i := 1) nd rfl (.inl rfl) (pe_lst (pa_cons (pv 0) (pa_cons pe_int (pa_cons pe_int (pa_cons pe_int pa_nil)))))) (show JSs _ _ g_law from (jss_cons (js_par2 2 3 rfl nd (jxs_cons (jx_val (je_call c_law_steps hr (by decide) (by rfl) (ja_cons (jv 1) (ja_cons je_int ja_nil)))) (jxs_cons (jx_val (je_bin op_addD o_add je_int (je_call c_law_taken hr (by decide) (by rfl) (ja_cons (jv 1) (ja_cons je_int ja_nil))))) jxs_nil)))
  (jss_cons (js_par2 4 5 rfl nd (jxs_cons (jx_val (je_call c_echo_series hr (by decide) (by rfl) (ja_cons (jv 2) (ja_cons (jv 3) ja_nil)))) (jxs_cons (jx_val (je_call c_layer_echo hr (by decide) (by rfl) (ja_cons (jv 2) ja_nil))) jxs_nil)))
  (jss_cons (js_if (jw (jw_or (jt_not (jt_val (je_callB call_isi o_isi (by rfl) z_isinstance b_isinstance (ja_cons (jv 4) (ja_cons (je_ty (by rfl) z_tuple b_tuple) ja_nil))))) (jw_or (jt_cmp (op_neD hr.units) o_ne (je_callB call_len_seq o_len (by rfl) z_len b_len (ja_cons (jv 4) ja_nil)) (jv 3) (nomark _)) (jw_or1 (jt_cmp op_gt o_gt (je_callB call_len_seq o_len (by rfl) z_len b_len (ja_cons (je_ix (jv 5) je_int) ja_nil)) (je_callB call_len_seq o_len (by rfl) z_len b_len (ja_cons (jv 2) ja_nil)) (nomark _))))))
  (jss_one (js_ret je_bl))
  jss_nil)
  (jss_cons (js_for PassesOwn.never rfl (ji_range1 (by rfl) z_range (ja_cons (jv 3) ja_nil)) (jg_name 6 nd)
  (jss_cons (js_set 7 nd (jx_val (je_tup (ja_cons je_int (ja_cons je_int ja_nil)))))
  (jss_cons (js_for PassesOwn.never rfl (ji_range1 (by rfl) z_range (ja_cons (je_bin op_addD o_add (jv 6) je_int) ja_nil)) (jg_name 8 nd)
  (jss_one (js_if (jt_cmp op_lt o_lt (je_bin op_sub o_sub (jv 6) (jv 8)) (je_callB call_len_seq o_len (by rfl) z_len b_len (ja_cons (je_ix (jv 5) je_int) ja_nil)) (nomark _))
  (jss_one (js_set 7 nd (jx_val (je_call c_law_plus_ratio hr (by decide) (by rfl) (ja_cons (jv 7) (ja_cons (je_call c_law_times_ratio hr (by decide) (by rfl) (ja_cons (je_ix (jv 4) (jv 8)) (ja_cons (je_tup (ja_cons (je_ix (je_ix (jv 5) je_int) (je_bin op_sub o_sub (jv 6) (jv 8))) (ja_cons je_int ja_nil))) ja_nil))) ja_nil))))))
  jss_nil)))
  (jss_one (js_if (jt_cmp (op_neD hr.units) o_ne (jv 7) (je_if (jt_cmp op_lt o_lt (jv 6) (je_callB call_len_seq o_len (by rfl) z_len b_len (ja_cons (je_ix (jv 5) je_int) ja_nil)) (nomark _)) (je_tup (ja_cons (je_ix (je_ix (jv 5) je_int) (jv 6)) (ja_cons je_int ja_nil))) (je_tup (ja_cons je_int (ja_cons je_int ja_nil)))) (nomark _))
  (jss_one (js_ret je_bl))
  jss_nil)))))
  (jss_cons (js_set 9 nd (jx_val (je_call c_echo_series hr (by decide) (by rfl) (ja_cons (jv 2) (ja_cons (je_callB call_len_seq o_len (by rfl) z_len b_len (ja_cons (jv 2) ja_nil)) ja_nil)))))
  (jss_cons (js_if (jw (jw_or (jt_cmp (op_neD hr.units) o_ne (je_call c_steps_of hr (by decide) (by rfl) (ja_cons (jv 9) ja_nil)) (jv 2) (nomark _)) (jw_or1 (jt_cmp (op_neD hr.units) o_ne (je_cut (je_call c_echo_series hr (by decide) (by rfl) (ja_cons (jv 2) (ja_cons je_int ja_nil))) jo_none (jo_some (jv 3))) (je_cut (jv 4) jo_none (jo_some je_int)) (nomark _)))))
  (jss_one (js_ret je_bl))
  jss_nil)
  (jss_cons (js_set 10 nd (jx_val (je_tup (ja_cons je_int (ja_cons je_int ja_nil)))))
  (jss_cons (js_for PassesOwn.never rfl (ji_seq (jv 4)) (jg_name 11 nd)
  (jss_one (js_set 10 nd (jx_val (je_call c_law_plus_ratio hr (by decide) (by rfl) (ja_cons (jv 10) (ja_cons (je_call c_law_times_ratio hr (by decide) (by rfl) (ja_cons (jv 11) (ja_cons (jv 11) ja_nil))) ja_nil)))))))
  (jss_one (js_ret (je_not (je_call c_law_less_ratio hr (by decide) (by rfl) (ja_cons (je_tup (ja_cons je_int (ja_cons je_int ja_nil))) (ja_cons (jv 10) ja_nil))))))))))))))).p) hlaw
end
theorem all_mk {w : World} {P : Program} {K : PySem.W.Frag} {h : Heap} {mg : Str → Option Value} {fa f_constant_of f_trimmed f_poly_plus f_poly_times f_content f_primitive f_scaled f_poly_minus f_remainder f_common f_quotient f_made f_plus_of f_times_of f_back_of f_over_of f_is_int f_is_ratio f_need_steps f_layer_echo f_is_in f_is_below f_ratio f_plus f_minus f_times f_before_step f_echo_series f_over f_behind_step f_steps_of f_law_taken f_law_shared f_law_ratio f_law_plus_ratio f_law_times_ratio f_law_less_ratio f_law_steps f_law : Addr} (X : K.In h) (G : h.Ns mainGlobals mg) (ht : P.given.tree = none) (hfa : mg "law" = some (.ref fa))
    (hlaw : ∀ ns : List Int, ns.length ≤ 63 → ∃ s', g_law (lawEnv 10) ⟨ns, 0, 3392, 0⟩ = .ret (.bl true) s')
    {od_constant_of an_constant_of : Option Addr} {sl_constant_of : Array (Option Value)} {oc_constant_of kV_constant_of dc_constant_of pm_constant_of cd_constant_of ct_constant_of : Value}
    (a_constant_of : PySem.W.nsIn K mainGlobals "constant_of" = some (some (.ref f_constant_of)))
    (l_constant_of : K.lookup f_constant_of = some ⟨oc_constant_of, od_constant_of, .func (PySem.W.fnOf "constant_of" "constant_of" (C8.fnArgs s_constant_of) (C8.fnBody s_constant_of) (C8.fnScope s_constant_of) .none kV_constant_of dc_constant_of pm_constant_of an_constant_of cd_constant_of ct_constant_of), sl_constant_of⟩)
    (k_constant_of : PySem.W.codeIn K cd_constant_of "constant_of" = true)
    (e_constant_of : PySem.W.keepIn K (.ref f_constant_of) = true)
    {od_trimmed an_trimmed : Option Addr} {sl_trimmed : Array (Option Value)} {oc_trimmed kV_trimmed dc_trimmed pm_trimmed cd_trimmed ct_trimmed : Value}
    (a_trimmed : PySem.W.nsIn K mainGlobals "trimmed" = some (some (.ref f_trimmed)))
    (l_trimmed : K.lookup f_trimmed = some ⟨oc_trimmed, od_trimmed, .func (PySem.W.fnOf "trimmed" "trimmed" (C8.fnArgs s_trimmed) (C8.fnBody s_trimmed) (C8.fnScope s_trimmed) .none kV_trimmed dc_trimmed pm_trimmed an_trimmed cd_trimmed ct_trimmed), sl_trimmed⟩)
    (k_trimmed : PySem.W.codeIn K cd_trimmed "trimmed" = true)
    (e_trimmed : PySem.W.keepIn K (.ref f_trimmed) = true)
    {od_poly_plus an_poly_plus : Option Addr} {sl_poly_plus : Array (Option Value)} {oc_poly_plus kV_poly_plus dc_poly_plus pm_poly_plus cd_poly_plus ct_poly_plus : Value}
    (a_poly_plus : PySem.W.nsIn K mainGlobals "poly_plus" = some (some (.ref f_poly_plus)))
    (l_poly_plus : K.lookup f_poly_plus = some ⟨oc_poly_plus, od_poly_plus, .func (PySem.W.fnOf "poly_plus" "poly_plus" (C8.fnArgs s_poly_plus) (C8.fnBody s_poly_plus) (C8.fnScope s_poly_plus) .none kV_poly_plus dc_poly_plus pm_poly_plus an_poly_plus cd_poly_plus ct_poly_plus), sl_poly_plus⟩)
    (k_poly_plus : PySem.W.codeIn K cd_poly_plus "poly_plus" = true)
    (e_poly_plus : PySem.W.keepIn K (.ref f_poly_plus) = true)
    {od_poly_times an_poly_times : Option Addr} {sl_poly_times : Array (Option Value)} {oc_poly_times kV_poly_times dc_poly_times pm_poly_times cd_poly_times ct_poly_times : Value}
    (a_poly_times : PySem.W.nsIn K mainGlobals "poly_times" = some (some (.ref f_poly_times)))
    (l_poly_times : K.lookup f_poly_times = some ⟨oc_poly_times, od_poly_times, .func (PySem.W.fnOf "poly_times" "poly_times" (C8.fnArgs s_poly_times) (C8.fnBody s_poly_times) (C8.fnScope s_poly_times) .none kV_poly_times dc_poly_times pm_poly_times an_poly_times cd_poly_times ct_poly_times), sl_poly_times⟩)
    (k_poly_times : PySem.W.codeIn K cd_poly_times "poly_times" = true)
    (e_poly_times : PySem.W.keepIn K (.ref f_poly_times) = true)
    {od_content an_content : Option Addr} {sl_content : Array (Option Value)} {oc_content kV_content dc_content pm_content cd_content ct_content : Value}
    (a_content : PySem.W.nsIn K mainGlobals "content" = some (some (.ref f_content)))
    (l_content : K.lookup f_content = some ⟨oc_content, od_content, .func (PySem.W.fnOf "content" "content" (C8.fnArgs s_content) (C8.fnBody s_content) (C8.fnScope s_content) .none kV_content dc_content pm_content an_content cd_content ct_content), sl_content⟩)
    (k_content : PySem.W.codeIn K cd_content "content" = true)
    (e_content : PySem.W.keepIn K (.ref f_content) = true)
    {od_primitive an_primitive : Option Addr} {sl_primitive : Array (Option Value)} {oc_primitive kV_primitive dc_primitive pm_primitive cd_primitive ct_primitive : Value}
    (a_primitive : PySem.W.nsIn K mainGlobals "primitive" = some (some (.ref f_primitive)))
    (l_primitive : K.lookup f_primitive = some ⟨oc_primitive, od_primitive, .func (PySem.W.fnOf "primitive" "primitive" (C8.fnArgs s_primitive) (C8.fnBody s_primitive) (C8.fnScope s_primitive) .none kV_primitive dc_primitive pm_primitive an_primitive cd_primitive ct_primitive), sl_primitive⟩)
    (k_primitive : PySem.W.codeIn K cd_primitive "primitive" = true)
    (e_primitive : PySem.W.keepIn K (.ref f_primitive) = true)
    {od_scaled an_scaled : Option Addr} {sl_scaled : Array (Option Value)} {oc_scaled kV_scaled dc_scaled pm_scaled cd_scaled ct_scaled : Value}
    (a_scaled : PySem.W.nsIn K mainGlobals "scaled" = some (some (.ref f_scaled)))
    (l_scaled : K.lookup f_scaled = some ⟨oc_scaled, od_scaled, .func (PySem.W.fnOf "scaled" "scaled" (C8.fnArgs s_scaled) (C8.fnBody s_scaled) (C8.fnScope s_scaled) .none kV_scaled dc_scaled pm_scaled an_scaled cd_scaled ct_scaled), sl_scaled⟩)
    (k_scaled : PySem.W.codeIn K cd_scaled "scaled" = true)
    (e_scaled : PySem.W.keepIn K (.ref f_scaled) = true)
    {od_poly_minus an_poly_minus : Option Addr} {sl_poly_minus : Array (Option Value)} {oc_poly_minus kV_poly_minus dc_poly_minus pm_poly_minus cd_poly_minus ct_poly_minus : Value}
    (a_poly_minus : PySem.W.nsIn K mainGlobals "poly_minus" = some (some (.ref f_poly_minus)))
    (l_poly_minus : K.lookup f_poly_minus = some ⟨oc_poly_minus, od_poly_minus, .func (PySem.W.fnOf "poly_minus" "poly_minus" (C8.fnArgs s_poly_minus) (C8.fnBody s_poly_minus) (C8.fnScope s_poly_minus) .none kV_poly_minus dc_poly_minus pm_poly_minus an_poly_minus cd_poly_minus ct_poly_minus), sl_poly_minus⟩)
    (k_poly_minus : PySem.W.codeIn K cd_poly_minus "poly_minus" = true)
    (e_poly_minus : PySem.W.keepIn K (.ref f_poly_minus) = true)
    {od_remainder an_remainder : Option Addr} {sl_remainder : Array (Option Value)} {oc_remainder kV_remainder dc_remainder pm_remainder cd_remainder ct_remainder : Value}
    (a_remainder : PySem.W.nsIn K mainGlobals "remainder" = some (some (.ref f_remainder)))
    (l_remainder : K.lookup f_remainder = some ⟨oc_remainder, od_remainder, .func (PySem.W.fnOf "remainder" "remainder" (C8.fnArgs s_remainder) (C8.fnBody s_remainder) (C8.fnScope s_remainder) .none kV_remainder dc_remainder pm_remainder an_remainder cd_remainder ct_remainder), sl_remainder⟩)
    (k_remainder : PySem.W.codeIn K cd_remainder "remainder" = true)
    (e_remainder : PySem.W.keepIn K (.ref f_remainder) = true)
    {od_common an_common : Option Addr} {sl_common : Array (Option Value)} {oc_common kV_common dc_common pm_common cd_common ct_common : Value}
    (a_common : PySem.W.nsIn K mainGlobals "common" = some (some (.ref f_common)))
    (l_common : K.lookup f_common = some ⟨oc_common, od_common, .func (PySem.W.fnOf "common" "common" (C8.fnArgs s_common) (C8.fnBody s_common) (C8.fnScope s_common) .none kV_common dc_common pm_common an_common cd_common ct_common), sl_common⟩)
    (k_common : PySem.W.codeIn K cd_common "common" = true)
    (e_common : PySem.W.keepIn K (.ref f_common) = true)
    {od_quotient an_quotient : Option Addr} {sl_quotient : Array (Option Value)} {oc_quotient kV_quotient dc_quotient pm_quotient cd_quotient ct_quotient : Value}
    (a_quotient : PySem.W.nsIn K mainGlobals "quotient" = some (some (.ref f_quotient)))
    (l_quotient : K.lookup f_quotient = some ⟨oc_quotient, od_quotient, .func (PySem.W.fnOf "quotient" "quotient" (C8.fnArgs s_quotient) (C8.fnBody s_quotient) (C8.fnScope s_quotient) .none kV_quotient dc_quotient pm_quotient an_quotient cd_quotient ct_quotient), sl_quotient⟩)
    (k_quotient : PySem.W.codeIn K cd_quotient "quotient" = true)
    (e_quotient : PySem.W.keepIn K (.ref f_quotient) = true)
    {od_made an_made : Option Addr} {sl_made : Array (Option Value)} {oc_made kV_made dc_made pm_made cd_made ct_made : Value}
    (a_made : PySem.W.nsIn K mainGlobals "made" = some (some (.ref f_made)))
    (l_made : K.lookup f_made = some ⟨oc_made, od_made, .func (PySem.W.fnOf "made" "made" (C8.fnArgs s_made) (C8.fnBody s_made) (C8.fnScope s_made) .none kV_made dc_made pm_made an_made cd_made ct_made), sl_made⟩)
    (k_made : PySem.W.codeIn K cd_made "made" = true)
    (e_made : PySem.W.keepIn K (.ref f_made) = true)
    {od_plus_of an_plus_of : Option Addr} {sl_plus_of : Array (Option Value)} {oc_plus_of kV_plus_of dc_plus_of pm_plus_of cd_plus_of ct_plus_of : Value}
    (a_plus_of : PySem.W.nsIn K mainGlobals "plus_of" = some (some (.ref f_plus_of)))
    (l_plus_of : K.lookup f_plus_of = some ⟨oc_plus_of, od_plus_of, .func (PySem.W.fnOf "plus_of" "plus_of" (C8.fnArgs s_plus_of) (C8.fnBody s_plus_of) (C8.fnScope s_plus_of) .none kV_plus_of dc_plus_of pm_plus_of an_plus_of cd_plus_of ct_plus_of), sl_plus_of⟩)
    (k_plus_of : PySem.W.codeIn K cd_plus_of "plus_of" = true)
    (e_plus_of : PySem.W.keepIn K (.ref f_plus_of) = true)
    {od_times_of an_times_of : Option Addr} {sl_times_of : Array (Option Value)} {oc_times_of kV_times_of dc_times_of pm_times_of cd_times_of ct_times_of : Value}
    (a_times_of : PySem.W.nsIn K mainGlobals "times_of" = some (some (.ref f_times_of)))
    (l_times_of : K.lookup f_times_of = some ⟨oc_times_of, od_times_of, .func (PySem.W.fnOf "times_of" "times_of" (C8.fnArgs s_times_of) (C8.fnBody s_times_of) (C8.fnScope s_times_of) .none kV_times_of dc_times_of pm_times_of an_times_of cd_times_of ct_times_of), sl_times_of⟩)
    (k_times_of : PySem.W.codeIn K cd_times_of "times_of" = true)
    (e_times_of : PySem.W.keepIn K (.ref f_times_of) = true)
    {od_back_of an_back_of : Option Addr} {sl_back_of : Array (Option Value)} {oc_back_of kV_back_of dc_back_of pm_back_of cd_back_of ct_back_of : Value}
    (a_back_of : PySem.W.nsIn K mainGlobals "back_of" = some (some (.ref f_back_of)))
    (l_back_of : K.lookup f_back_of = some ⟨oc_back_of, od_back_of, .func (PySem.W.fnOf "back_of" "back_of" (C8.fnArgs s_back_of) (C8.fnBody s_back_of) (C8.fnScope s_back_of) .none kV_back_of dc_back_of pm_back_of an_back_of cd_back_of ct_back_of), sl_back_of⟩)
    (k_back_of : PySem.W.codeIn K cd_back_of "back_of" = true)
    (e_back_of : PySem.W.keepIn K (.ref f_back_of) = true)
    {od_over_of an_over_of : Option Addr} {sl_over_of : Array (Option Value)} {oc_over_of kV_over_of dc_over_of pm_over_of cd_over_of ct_over_of : Value}
    (a_over_of : PySem.W.nsIn K mainGlobals "over_of" = some (some (.ref f_over_of)))
    (l_over_of : K.lookup f_over_of = some ⟨oc_over_of, od_over_of, .func (PySem.W.fnOf "over_of" "over_of" (C8.fnArgs s_over_of) (C8.fnBody s_over_of) (C8.fnScope s_over_of) .none kV_over_of dc_over_of pm_over_of an_over_of cd_over_of ct_over_of), sl_over_of⟩)
    (k_over_of : PySem.W.codeIn K cd_over_of "over_of" = true)
    (e_over_of : PySem.W.keepIn K (.ref f_over_of) = true)
    {od_is_int an_is_int : Option Addr} {sl_is_int : Array (Option Value)} {oc_is_int kV_is_int dc_is_int pm_is_int cd_is_int ct_is_int : Value}
    (a_is_int : PySem.W.nsIn K mainGlobals "is_int" = some (some (.ref f_is_int)))
    (l_is_int : K.lookup f_is_int = some ⟨oc_is_int, od_is_int, .func (PySem.W.fnOf "is_int" "is_int" (C8.fnArgs s_is_int) (C8.fnBody s_is_int) (C8.fnScope s_is_int) .none kV_is_int dc_is_int pm_is_int an_is_int cd_is_int ct_is_int), sl_is_int⟩)
    (k_is_int : PySem.W.codeIn K cd_is_int "is_int" = true)
    (e_is_int : PySem.W.keepIn K (.ref f_is_int) = true)
    {od_is_ratio an_is_ratio : Option Addr} {sl_is_ratio : Array (Option Value)} {oc_is_ratio kV_is_ratio dc_is_ratio pm_is_ratio cd_is_ratio ct_is_ratio : Value}
    (a_is_ratio : PySem.W.nsIn K mainGlobals "is_ratio" = some (some (.ref f_is_ratio)))
    (l_is_ratio : K.lookup f_is_ratio = some ⟨oc_is_ratio, od_is_ratio, .func (PySem.W.fnOf "is_ratio" "is_ratio" (C8.fnArgs s_is_ratio) (C8.fnBody s_is_ratio) (C8.fnScope s_is_ratio) .none kV_is_ratio dc_is_ratio pm_is_ratio an_is_ratio cd_is_ratio ct_is_ratio), sl_is_ratio⟩)
    (k_is_ratio : PySem.W.codeIn K cd_is_ratio "is_ratio" = true)
    (e_is_ratio : PySem.W.keepIn K (.ref f_is_ratio) = true)
    {od_need_steps an_need_steps : Option Addr} {sl_need_steps : Array (Option Value)} {oc_need_steps kV_need_steps dc_need_steps pm_need_steps cd_need_steps ct_need_steps : Value}
    (a_need_steps : PySem.W.nsIn K mainGlobals "need_steps" = some (some (.ref f_need_steps)))
    (l_need_steps : K.lookup f_need_steps = some ⟨oc_need_steps, od_need_steps, .func (PySem.W.fnOf "need_steps" "need_steps" (C8.fnArgs s_need_steps) (C8.fnBody s_need_steps) (C8.fnScope s_need_steps) .none kV_need_steps dc_need_steps pm_need_steps an_need_steps cd_need_steps ct_need_steps), sl_need_steps⟩)
    (k_need_steps : PySem.W.codeIn K cd_need_steps "need_steps" = true)
    (e_need_steps : PySem.W.keepIn K (.ref f_need_steps) = true)
    {od_layer_echo an_layer_echo : Option Addr} {sl_layer_echo : Array (Option Value)} {oc_layer_echo kV_layer_echo dc_layer_echo pm_layer_echo cd_layer_echo ct_layer_echo : Value}
    (a_layer_echo : PySem.W.nsIn K mainGlobals "layer_echo" = some (some (.ref f_layer_echo)))
    (l_layer_echo : K.lookup f_layer_echo = some ⟨oc_layer_echo, od_layer_echo, .func (PySem.W.fnOf "layer_echo" "layer_echo" (C8.fnArgs s_layer_echo) (C8.fnBody s_layer_echo) (C8.fnScope s_layer_echo) .none kV_layer_echo dc_layer_echo pm_layer_echo an_layer_echo cd_layer_echo ct_layer_echo), sl_layer_echo⟩)
    (k_layer_echo : PySem.W.codeIn K cd_layer_echo "layer_echo" = true)
    (e_layer_echo : PySem.W.keepIn K (.ref f_layer_echo) = true)
    {od_is_in an_is_in : Option Addr} {sl_is_in : Array (Option Value)} {oc_is_in kV_is_in dc_is_in pm_is_in cd_is_in ct_is_in : Value}
    (a_is_in : PySem.W.nsIn K mainGlobals "is_in" = some (some (.ref f_is_in)))
    (l_is_in : K.lookup f_is_in = some ⟨oc_is_in, od_is_in, .func (PySem.W.fnOf "is_in" "is_in" (C8.fnArgs s_is_in) (C8.fnBody s_is_in) (C8.fnScope s_is_in) .none kV_is_in dc_is_in pm_is_in an_is_in cd_is_in ct_is_in), sl_is_in⟩)
    (k_is_in : PySem.W.codeIn K cd_is_in "is_in" = true)
    (e_is_in : PySem.W.keepIn K (.ref f_is_in) = true)
    {od_is_below an_is_below : Option Addr} {sl_is_below : Array (Option Value)} {oc_is_below kV_is_below dc_is_below pm_is_below cd_is_below ct_is_below : Value}
    (a_is_below : PySem.W.nsIn K mainGlobals "is_below" = some (some (.ref f_is_below)))
    (l_is_below : K.lookup f_is_below = some ⟨oc_is_below, od_is_below, .func (PySem.W.fnOf "is_below" "is_below" (C8.fnArgs s_is_below) (C8.fnBody s_is_below) (C8.fnScope s_is_below) .none kV_is_below dc_is_below pm_is_below an_is_below cd_is_below ct_is_below), sl_is_below⟩)
    (k_is_below : PySem.W.codeIn K cd_is_below "is_below" = true)
    (e_is_below : PySem.W.keepIn K (.ref f_is_below) = true)
    {od_ratio an_ratio : Option Addr} {sl_ratio : Array (Option Value)} {oc_ratio kV_ratio dc_ratio pm_ratio cd_ratio ct_ratio : Value}
    (a_ratio : PySem.W.nsIn K mainGlobals "ratio" = some (some (.ref f_ratio)))
    (l_ratio : K.lookup f_ratio = some ⟨oc_ratio, od_ratio, .func (PySem.W.fnOf "ratio" "ratio" (C8.fnArgs s_ratio) (C8.fnBody s_ratio) (C8.fnScope s_ratio) .none kV_ratio dc_ratio pm_ratio an_ratio cd_ratio ct_ratio), sl_ratio⟩)
    (k_ratio : PySem.W.codeIn K cd_ratio "ratio" = true)
    (e_ratio : PySem.W.keepIn K (.ref f_ratio) = true)
    {od_plus an_plus : Option Addr} {sl_plus : Array (Option Value)} {oc_plus kV_plus dc_plus pm_plus cd_plus ct_plus : Value}
    (a_plus : PySem.W.nsIn K mainGlobals "plus" = some (some (.ref f_plus)))
    (l_plus : K.lookup f_plus = some ⟨oc_plus, od_plus, .func (PySem.W.fnOf "plus" "plus" (C8.fnArgs s_plus) (C8.fnBody s_plus) (C8.fnScope s_plus) .none kV_plus dc_plus pm_plus an_plus cd_plus ct_plus), sl_plus⟩)
    (k_plus : PySem.W.codeIn K cd_plus "plus" = true)
    (e_plus : PySem.W.keepIn K (.ref f_plus) = true)
    {od_minus an_minus : Option Addr} {sl_minus : Array (Option Value)} {oc_minus kV_minus dc_minus pm_minus cd_minus ct_minus : Value}
    (a_minus : PySem.W.nsIn K mainGlobals "minus" = some (some (.ref f_minus)))
    (l_minus : K.lookup f_minus = some ⟨oc_minus, od_minus, .func (PySem.W.fnOf "minus" "minus" (C8.fnArgs s_minus) (C8.fnBody s_minus) (C8.fnScope s_minus) .none kV_minus dc_minus pm_minus an_minus cd_minus ct_minus), sl_minus⟩)
    (k_minus : PySem.W.codeIn K cd_minus "minus" = true)
    (e_minus : PySem.W.keepIn K (.ref f_minus) = true)
    {od_times an_times : Option Addr} {sl_times : Array (Option Value)} {oc_times kV_times dc_times pm_times cd_times ct_times : Value}
    (a_times : PySem.W.nsIn K mainGlobals "times" = some (some (.ref f_times)))
    (l_times : K.lookup f_times = some ⟨oc_times, od_times, .func (PySem.W.fnOf "times" "times" (C8.fnArgs s_times) (C8.fnBody s_times) (C8.fnScope s_times) .none kV_times dc_times pm_times an_times cd_times ct_times), sl_times⟩)
    (k_times : PySem.W.codeIn K cd_times "times" = true)
    (e_times : PySem.W.keepIn K (.ref f_times) = true)
    {od_before_step an_before_step : Option Addr} {sl_before_step : Array (Option Value)} {oc_before_step kV_before_step dc_before_step pm_before_step cd_before_step ct_before_step : Value}
    (a_before_step : PySem.W.nsIn K mainGlobals "before_step" = some (some (.ref f_before_step)))
    (l_before_step : K.lookup f_before_step = some ⟨oc_before_step, od_before_step, .func (PySem.W.fnOf "before_step" "before_step" (C8.fnArgs s_before_step) (C8.fnBody s_before_step) (C8.fnScope s_before_step) .none kV_before_step dc_before_step pm_before_step an_before_step cd_before_step ct_before_step), sl_before_step⟩)
    (k_before_step : PySem.W.codeIn K cd_before_step "before_step" = true)
    (e_before_step : PySem.W.keepIn K (.ref f_before_step) = true)
    {od_echo_series an_echo_series : Option Addr} {sl_echo_series : Array (Option Value)} {oc_echo_series kV_echo_series dc_echo_series pm_echo_series cd_echo_series ct_echo_series : Value}
    (a_echo_series : PySem.W.nsIn K mainGlobals "echo_series" = some (some (.ref f_echo_series)))
    (l_echo_series : K.lookup f_echo_series = some ⟨oc_echo_series, od_echo_series, .func (PySem.W.fnOf "echo_series" "echo_series" (C8.fnArgs s_echo_series) (C8.fnBody s_echo_series) (C8.fnScope s_echo_series) .none kV_echo_series dc_echo_series pm_echo_series an_echo_series cd_echo_series ct_echo_series), sl_echo_series⟩)
    (k_echo_series : PySem.W.codeIn K cd_echo_series "echo_series" = true)
    (e_echo_series : PySem.W.keepIn K (.ref f_echo_series) = true)
    {od_over an_over : Option Addr} {sl_over : Array (Option Value)} {oc_over kV_over dc_over pm_over cd_over ct_over : Value}
    (a_over : PySem.W.nsIn K mainGlobals "over" = some (some (.ref f_over)))
    (l_over : K.lookup f_over = some ⟨oc_over, od_over, .func (PySem.W.fnOf "over" "over" (C8.fnArgs s_over) (C8.fnBody s_over) (C8.fnScope s_over) .none kV_over dc_over pm_over an_over cd_over ct_over), sl_over⟩)
    (k_over : PySem.W.codeIn K cd_over "over" = true)
    (e_over : PySem.W.keepIn K (.ref f_over) = true)
    {od_behind_step an_behind_step : Option Addr} {sl_behind_step : Array (Option Value)} {oc_behind_step kV_behind_step dc_behind_step pm_behind_step cd_behind_step ct_behind_step : Value}
    (a_behind_step : PySem.W.nsIn K mainGlobals "behind_step" = some (some (.ref f_behind_step)))
    (l_behind_step : K.lookup f_behind_step = some ⟨oc_behind_step, od_behind_step, .func (PySem.W.fnOf "behind_step" "behind_step" (C8.fnArgs s_behind_step) (C8.fnBody s_behind_step) (C8.fnScope s_behind_step) .none kV_behind_step dc_behind_step pm_behind_step an_behind_step cd_behind_step ct_behind_step), sl_behind_step⟩)
    (k_behind_step : PySem.W.codeIn K cd_behind_step "behind_step" = true)
    (e_behind_step : PySem.W.keepIn K (.ref f_behind_step) = true)
    {od_steps_of an_steps_of : Option Addr} {sl_steps_of : Array (Option Value)} {oc_steps_of kV_steps_of dc_steps_of pm_steps_of cd_steps_of ct_steps_of : Value}
    (a_steps_of : PySem.W.nsIn K mainGlobals "steps_of" = some (some (.ref f_steps_of)))
    (l_steps_of : K.lookup f_steps_of = some ⟨oc_steps_of, od_steps_of, .func (PySem.W.fnOf "steps_of" "steps_of" (C8.fnArgs s_steps_of) (C8.fnBody s_steps_of) (C8.fnScope s_steps_of) .none kV_steps_of dc_steps_of pm_steps_of an_steps_of cd_steps_of ct_steps_of), sl_steps_of⟩)
    (k_steps_of : PySem.W.codeIn K cd_steps_of "steps_of" = true)
    (e_steps_of : PySem.W.keepIn K (.ref f_steps_of) = true)
    {od_law_taken an_law_taken : Option Addr} {sl_law_taken : Array (Option Value)} {oc_law_taken kV_law_taken dc_law_taken pm_law_taken cd_law_taken ct_law_taken : Value}
    (a_law_taken : PySem.W.nsIn K mainGlobals "_law_taken" = some (some (.ref f_law_taken)))
    (l_law_taken : K.lookup f_law_taken = some ⟨oc_law_taken, od_law_taken, .func (PySem.W.fnOf "_law_taken" "_law_taken" (C8.fnArgs s_law_taken) (C8.fnBody s_law_taken) (C8.fnScope s_law_taken) .none kV_law_taken dc_law_taken pm_law_taken an_law_taken cd_law_taken ct_law_taken), sl_law_taken⟩)
    (k_law_taken : PySem.W.codeIn K cd_law_taken "_law_taken" = true)
    (e_law_taken : PySem.W.keepIn K (.ref f_law_taken) = true)
    {od_law_shared an_law_shared : Option Addr} {sl_law_shared : Array (Option Value)} {oc_law_shared kV_law_shared dc_law_shared pm_law_shared cd_law_shared ct_law_shared : Value}
    (a_law_shared : PySem.W.nsIn K mainGlobals "_law_shared" = some (some (.ref f_law_shared)))
    (l_law_shared : K.lookup f_law_shared = some ⟨oc_law_shared, od_law_shared, .func (PySem.W.fnOf "_law_shared" "_law_shared" (C8.fnArgs s_law_shared) (C8.fnBody s_law_shared) (C8.fnScope s_law_shared) .none kV_law_shared dc_law_shared pm_law_shared an_law_shared cd_law_shared ct_law_shared), sl_law_shared⟩)
    (k_law_shared : PySem.W.codeIn K cd_law_shared "_law_shared" = true)
    (e_law_shared : PySem.W.keepIn K (.ref f_law_shared) = true)
    {od_law_ratio an_law_ratio : Option Addr} {sl_law_ratio : Array (Option Value)} {oc_law_ratio kV_law_ratio dc_law_ratio pm_law_ratio cd_law_ratio ct_law_ratio : Value}
    (a_law_ratio : PySem.W.nsIn K mainGlobals "_law_ratio" = some (some (.ref f_law_ratio)))
    (l_law_ratio : K.lookup f_law_ratio = some ⟨oc_law_ratio, od_law_ratio, .func (PySem.W.fnOf "_law_ratio" "_law_ratio" (C8.fnArgs s_law_ratio) (C8.fnBody s_law_ratio) (C8.fnScope s_law_ratio) .none kV_law_ratio dc_law_ratio pm_law_ratio an_law_ratio cd_law_ratio ct_law_ratio), sl_law_ratio⟩)
    (k_law_ratio : PySem.W.codeIn K cd_law_ratio "_law_ratio" = true)
    (e_law_ratio : PySem.W.keepIn K (.ref f_law_ratio) = true)
    {od_law_plus_ratio an_law_plus_ratio : Option Addr} {sl_law_plus_ratio : Array (Option Value)} {oc_law_plus_ratio kV_law_plus_ratio dc_law_plus_ratio pm_law_plus_ratio cd_law_plus_ratio ct_law_plus_ratio : Value}
    (a_law_plus_ratio : PySem.W.nsIn K mainGlobals "_law_plus_ratio" = some (some (.ref f_law_plus_ratio)))
    (l_law_plus_ratio : K.lookup f_law_plus_ratio = some ⟨oc_law_plus_ratio, od_law_plus_ratio, .func (PySem.W.fnOf "_law_plus_ratio" "_law_plus_ratio" (C8.fnArgs s_law_plus_ratio) (C8.fnBody s_law_plus_ratio) (C8.fnScope s_law_plus_ratio) .none kV_law_plus_ratio dc_law_plus_ratio pm_law_plus_ratio an_law_plus_ratio cd_law_plus_ratio ct_law_plus_ratio), sl_law_plus_ratio⟩)
    (k_law_plus_ratio : PySem.W.codeIn K cd_law_plus_ratio "_law_plus_ratio" = true)
    (e_law_plus_ratio : PySem.W.keepIn K (.ref f_law_plus_ratio) = true)
    {od_law_times_ratio an_law_times_ratio : Option Addr} {sl_law_times_ratio : Array (Option Value)} {oc_law_times_ratio kV_law_times_ratio dc_law_times_ratio pm_law_times_ratio cd_law_times_ratio ct_law_times_ratio : Value}
    (a_law_times_ratio : PySem.W.nsIn K mainGlobals "_law_times_ratio" = some (some (.ref f_law_times_ratio)))
    (l_law_times_ratio : K.lookup f_law_times_ratio = some ⟨oc_law_times_ratio, od_law_times_ratio, .func (PySem.W.fnOf "_law_times_ratio" "_law_times_ratio" (C8.fnArgs s_law_times_ratio) (C8.fnBody s_law_times_ratio) (C8.fnScope s_law_times_ratio) .none kV_law_times_ratio dc_law_times_ratio pm_law_times_ratio an_law_times_ratio cd_law_times_ratio ct_law_times_ratio), sl_law_times_ratio⟩)
    (k_law_times_ratio : PySem.W.codeIn K cd_law_times_ratio "_law_times_ratio" = true)
    (e_law_times_ratio : PySem.W.keepIn K (.ref f_law_times_ratio) = true)
    {od_law_less_ratio an_law_less_ratio : Option Addr} {sl_law_less_ratio : Array (Option Value)} {oc_law_less_ratio kV_law_less_ratio dc_law_less_ratio pm_law_less_ratio cd_law_less_ratio ct_law_less_ratio : Value}
    (a_law_less_ratio : PySem.W.nsIn K mainGlobals "_law_less_ratio" = some (some (.ref f_law_less_ratio)))
    (l_law_less_ratio : K.lookup f_law_less_ratio = some ⟨oc_law_less_ratio, od_law_less_ratio, .func (PySem.W.fnOf "_law_less_ratio" "_law_less_ratio" (C8.fnArgs s_law_less_ratio) (C8.fnBody s_law_less_ratio) (C8.fnScope s_law_less_ratio) .none kV_law_less_ratio dc_law_less_ratio pm_law_less_ratio an_law_less_ratio cd_law_less_ratio ct_law_less_ratio), sl_law_less_ratio⟩)
    (k_law_less_ratio : PySem.W.codeIn K cd_law_less_ratio "_law_less_ratio" = true)
    (e_law_less_ratio : PySem.W.keepIn K (.ref f_law_less_ratio) = true)
    {od_law_steps an_law_steps : Option Addr} {sl_law_steps : Array (Option Value)} {oc_law_steps kV_law_steps dc_law_steps pm_law_steps cd_law_steps ct_law_steps : Value}
    (a_law_steps : PySem.W.nsIn K mainGlobals "_law_steps" = some (some (.ref f_law_steps)))
    (l_law_steps : K.lookup f_law_steps = some ⟨oc_law_steps, od_law_steps, .func (PySem.W.fnOf "_law_steps" "_law_steps" (C8.fnArgs s_law_steps) (C8.fnBody s_law_steps) (C8.fnScope s_law_steps) .none kV_law_steps dc_law_steps pm_law_steps an_law_steps cd_law_steps ct_law_steps), sl_law_steps⟩)
    (k_law_steps : PySem.W.codeIn K cd_law_steps "_law_steps" = true)
    (e_law_steps : PySem.W.keepIn K (.ref f_law_steps) = true)
    {od_law an_law : Option Addr} {sl_law : Array (Option Value)} {oc_law kV_law dc_law pm_law cd_law ct_law : Value}
    (a_law : PySem.W.nsIn K mainGlobals "law" = some (some (.ref f_law)))
    (l_law : K.lookup f_law = some ⟨oc_law, od_law, .func (PySem.W.fnOf "law" "law" (C8.fnArgs s_law) (C8.fnBody s_law) (C8.fnScope s_law) .none kV_law dc_law pm_law an_law cd_law ct_law), sl_law⟩)
    (k_law : PySem.W.codeIn K cd_law "law" = true)
    (e_law : PySem.W.keepIn K (.ref f_law) = true)
    (z_len : PySem.W.nsIn K mainGlobals "len" = some none)
    (z_tuple : PySem.W.nsIn K mainGlobals "tuple" = some none)
    (z_max : PySem.W.nsIn K mainGlobals "max" = some none)
    (z_zip : PySem.W.nsIn K mainGlobals "zip" = some none)
    (z_enumerate : PySem.W.nsIn K mainGlobals "enumerate" = some none)
    (z_abs : PySem.W.nsIn K mainGlobals "abs" = some none)
    (z_list : PySem.W.nsIn K mainGlobals "list" = some none)
    (z_range : PySem.W.nsIn K mainGlobals "range" = some none)
    (z_isinstance : PySem.W.nsIn K mainGlobals "isinstance" = some none)
    (z_int : PySem.W.nsIn K mainGlobals "int" = some none)
    (z_bool : PySem.W.nsIn K mainGlobals "bool" = some none)
    (z_all : PySem.W.nsIn K mainGlobals "all" = some none)
    {q1 : Addr}
    {q2 : Addr}
    {od2 : Option Addr} {n2 : Nat} {sl2 : Array (Option Value)} (lq2 : K.lookup q2 = some ⟨.type "tuple", od2, .seq #[] n2, sl2⟩)
    {q3 : Addr}
    {t4 : Tok}
    {od3 : Option Addr} {n3 : Nat} {sl3 : Array (Option Value)} (lq3 : K.lookup q3 = some ⟨.type "tuple", od3, .seq #[.int 1 t4] n3, sl3⟩)
    {od1 : Option Addr} {n1 : Nat} {sl1 : Array (Option Value)} (lq1 : K.lookup q1 = some ⟨.type "tuple", od1, .seq #[.ref q2, .ref q3] n1, sl1⟩)
    (n_ZERO : PySem.W.nsIn K mainGlobals "ZERO" = some (some (.ref q1)))
    (n_gcd : PySem.W.nsIn K mainGlobals "gcd" = some (some (.builtin "math.gcd")))
    {t5 : Tok}
    (n_MOST_SIZE : PySem.W.nsIn K mainGlobals "MOST_SIZE" = some (some (.int (10 ^ 60) t5)))
    {t6 : Tok}
    (n_MOST_STEPS : PySem.W.nsIn K mainGlobals "MOST_STEPS" = some (some (.int 12 t6)))
    {q7 : Addr}
    {q8 : Addr}
    {t9 : Tok}
    {t10 : Tok}
    {od8 : Option Addr} {n8 : Nat} {sl8 : Array (Option Value)} (lq8 : K.lookup q8 = some ⟨.type "tuple", od8, .seq #[.int 0 t9, .int 1 t10] n8, sl8⟩)
    {q11 : Addr}
    {t12 : Tok}
    {od11 : Option Addr} {n11 : Nat} {sl11 : Array (Option Value)} (lq11 : K.lookup q11 = some ⟨.type "tuple", od11, .seq #[.int 1 t12] n11, sl11⟩)
    {od7 : Option Addr} {n7 : Nat} {sl7 : Array (Option Value)} (lq7 : K.lookup q7 = some ⟨.type "tuple", od7, .seq #[.ref q8, .ref q11] n7, sl7⟩)
    (n_VARIABLE : PySem.W.nsIn K mainGlobals "VARIABLE" = some (some (.ref q7)))
    {q13 : Addr}
    {q14 : Addr}
    {t15 : Tok}
    {od14 : Option Addr} {n14 : Nat} {sl14 : Array (Option Value)} (lq14 : K.lookup q14 = some ⟨.type "tuple", od14, .seq #[.int 1 t15] n14, sl14⟩)
    {q16 : Addr}
    {t17 : Tok}
    {od16 : Option Addr} {n16 : Nat} {sl16 : Array (Option Value)} (lq16 : K.lookup q16 = some ⟨.type "tuple", od16, .seq #[.int 1 t17] n16, sl16⟩)
    {od13 : Option Addr} {n13 : Nat} {sl13 : Array (Option Value)} (lq13 : K.lookup q13 = some ⟨.type "tuple", od13, .seq #[.ref q14, .ref q16] n13, sl13⟩)
    (n_ONE : PySem.W.nsIn K mainGlobals "ONE" = some (some (.ref q13)))
    : ∃ fd : FuncData, (∀ (s : Shared) (u : Value), BindsTo s fd ⟨[u], []⟩ [("_law_script", u)]) ∧ ∀ base : Heap, K.In base → base.Ns mainGlobals mg → base.NoSeer → FnOk P w K mg base C8.CX0 50 fa fd ["_law_script"] (spLaw K) := by
  have e := hfa.symm.trans (PySem.W.mg_of X G a_law)
  cases e
  have z_len := PySem.W.mg_none_of X G z_len
  have z_tuple := PySem.W.mg_none_of X G z_tuple
  have z_max := PySem.W.mg_none_of X G z_max
  have z_zip := PySem.W.mg_none_of X G z_zip
  have z_enumerate := PySem.W.mg_none_of X G z_enumerate
  have z_abs := PySem.W.mg_none_of X G z_abs
  have z_list := PySem.W.mg_none_of X G z_list
  have z_range := PySem.W.mg_none_of X G z_range
  have z_isinstance := PySem.W.mg_none_of X G z_isinstance
  have z_int := PySem.W.mg_none_of X G z_int
  have z_bool := PySem.W.mg_none_of X G z_bool
  have z_all := PySem.W.mg_none_of X G z_all
  have g_ZERO : Glb K mg "ZERO" d_ZERO := glb_of X G n_ZERO (cv_tup lq1 (cvs_cons (cv_tup lq2 cvs_nil) (cvs_cons (cv_tup lq3 (cvs_cons cv_int cvs_nil)) cvs_nil)))
  have g_gcd := PySem.W.mg_of X G n_gcd
  have g_MOST_SIZE : Glb K mg "MOST_SIZE" d_MOST_SIZE := glb_of X G n_MOST_SIZE cv_int
  have g_MOST_STEPS : Glb K mg "MOST_STEPS" d_MOST_STEPS := glb_of X G n_MOST_STEPS cv_int
  have g_VARIABLE : Glb K mg "VARIABLE" d_VARIABLE := glb_of X G n_VARIABLE (cv_tup lq7 (cvs_cons (cv_tup lq8 (cvs_cons cv_int (cvs_cons cv_int cvs_nil))) (cvs_cons (cv_tup lq11 (cvs_cons cv_int cvs_nil)) cvs_nil)))
  have g_ONE : Glb K mg "ONE" d_ONE := glb_of X G n_ONE (cv_tup lq13 (cvs_cons (cv_tup lq14 (cvs_cons cv_int cvs_nil)) (cvs_cons (cv_tup lq16 (cvs_cons cv_int cvs_nil)) cvs_nil)))
  refine ⟨PySem.W.fnOf "law" "law" (C8.fnArgs s_law) (C8.fnBody s_law) (C8.fnScope s_law) .none kV_law dc_law pm_law an_law cd_law ct_law, fun s u => .of_eq rfl, fun base kb gb sb => ?_⟩
  have hS : Sees P base := ⟨sb, ht⟩
  have F_constant_of := def_of (st := s_constant_of) X G a_constant_of l_constant_of k_constant_of e_constant_of
  have B_constant_of : Binds K _ ["told"] [] := C8.Fun.binds F_constant_of.fn rfl (ps := ["told"]) fun _ _ _ _ _ _ us hl => match us, hl with | [_], _ => rfl
  have c_constant_of := ok_constant_of (P := P) (w := w) (base := base) F_constant_of B_constant_of g_ZERO
  have F_trimmed := def_of (st := s_trimmed) X G a_trimmed l_trimmed k_trimmed e_trimmed
  have B_trimmed : Binds K _ ["some"] [] := C8.Fun.binds F_trimmed.fn rfl (ps := ["some"]) fun _ _ _ _ _ _ us hl => match us, hl with | [_], _ => rfl
  have c_trimmed := ok_trimmed (P := P) (w := w) (base := base) F_trimmed B_trimmed z_len z_tuple
  have F_poly_plus := def_of (st := s_poly_plus) X G a_poly_plus l_poly_plus k_poly_plus e_poly_plus
  have B_poly_plus : Binds K _ ["one", "other"] [] := C8.Fun.binds F_poly_plus.fn rfl (ps := ["one", "other"]) fun _ _ _ _ _ _ us hl => match us, hl with | [_, _], _ => rfl
  have c_poly_plus := ok_poly_plus (P := P) (w := w) (base := base) F_poly_plus B_poly_plus z_max z_len z_zip c_trimmed
  have F_poly_times := def_of (st := s_poly_times) X G a_poly_times l_poly_times k_poly_times e_poly_times
  have B_poly_times : Binds K _ ["one", "other"] [] := C8.Fun.binds F_poly_times.fn rfl (ps := ["one", "other"]) fun _ _ _ _ _ _ us hl => match us, hl with | [_, _], _ => rfl
  have c_poly_times := ok_poly_times (P := P) (w := w) (base := base) F_poly_times B_poly_times z_len z_enumerate c_trimmed
  have F_content := def_of (st := s_content) X G a_content l_content k_content e_content
  have B_content : Binds K _ ["one"] [] := C8.Fun.binds F_content.fn rfl (ps := ["one"]) fun _ _ _ _ _ _ us hl => match us, hl with | [_], _ => rfl
  have c_content := ok_content (P := P) (w := w) (base := base) F_content B_content g_gcd
  have F_primitive := def_of (st := s_primitive) X G a_primitive l_primitive k_primitive e_primitive
  have B_primitive : Binds K _ ["one"] [] := C8.Fun.binds F_primitive.fn rfl (ps := ["one"]) fun _ _ _ _ _ _ us hl => match us, hl with | [_], _ => rfl
  have c_primitive := ok_primitive (P := P) (w := w) (base := base) F_primitive B_primitive z_tuple c_content (hS)
  have F_scaled := def_of (st := s_scaled) X G a_scaled l_scaled k_scaled e_scaled
  have B_scaled : Binds K _ ["one", "factor"] [] := C8.Fun.binds F_scaled.fn rfl (ps := ["one", "factor"]) fun _ _ _ _ _ _ us hl => match us, hl with | [_, _], _ => rfl
  have c_scaled := ok_scaled (P := P) (w := w) (base := base) F_scaled B_scaled c_trimmed
  have F_poly_minus := def_of (st := s_poly_minus) X G a_poly_minus l_poly_minus k_poly_minus e_poly_minus
  have B_poly_minus : Binds K _ ["one", "other"] [] := C8.Fun.binds F_poly_minus.fn rfl (ps := ["one", "other"]) fun _ _ _ _ _ _ us hl => match us, hl with | [_, _], _ => rfl
  have c_poly_minus := ok_poly_minus (P := P) (w := w) (base := base) F_poly_minus B_poly_minus c_poly_plus c_scaled
  have F_remainder := def_of (st := s_remainder) X G a_remainder l_remainder k_remainder e_remainder
  have B_remainder : Binds K _ ["one", "other"] [] := C8.Fun.binds F_remainder.fn rfl (ps := ["one", "other"]) fun _ _ _ _ _ _ us hl => match us, hl with | [_, _], _ => rfl
  have c_remainder := ok_remainder (P := P) (w := w) (base := base) F_remainder B_remainder z_len z_abs z_tuple c_scaled c_poly_minus c_content (hS)
  have F_common := def_of (st := s_common) X G a_common l_common k_common e_common
  have B_common : Binds K _ ["one", "other"] [] := C8.Fun.binds F_common.fn rfl (ps := ["one", "other"]) fun _ _ _ _ _ _ us hl => match us, hl with | [_, _], _ => rfl
  have c_common := ok_common (P := P) (w := w) (base := base) F_common B_common c_primitive c_remainder
  have F_quotient := def_of (st := s_quotient) X G a_quotient l_quotient k_quotient e_quotient
  have B_quotient : Binds K _ ["one", "other"] [] := C8.Fun.binds F_quotient.fn rfl (ps := ["one", "other"]) fun _ _ _ _ _ _ us hl => match us, hl with | [_, _], _ => rfl
  have c_quotient := ok_quotient (P := P) (w := w) (base := base) F_quotient B_quotient z_max z_len z_list z_range z_enumerate c_trimmed (hS)
  have F_made := def_of (st := s_made) X G a_made l_made k_made e_made
  have B_made : Binds K _ ["top", "bottom"] [] := C8.Fun.binds F_made.fn rfl (ps := ["top", "bottom"]) fun _ _ _ _ _ _ us hl => match us, hl with | [_, _], _ => rfl
  have c_made := ok_made (P := P) (w := w) (base := base) F_made B_made z_tuple g_ZERO g_gcd c_common c_quotient c_content (hS)
  have F_plus_of := def_of (st := s_plus_of) X G a_plus_of l_plus_of k_plus_of e_plus_of
  have B_plus_of : Binds K _ ["one", "other"] [] := C8.Fun.binds F_plus_of.fn rfl (ps := ["one", "other"]) fun _ _ _ _ _ _ us hl => match us, hl with | [_, _], _ => rfl
  have c_plus_of := ok_plus_of (P := P) (w := w) (base := base) F_plus_of B_plus_of c_poly_plus c_poly_times c_made
  have F_times_of := def_of (st := s_times_of) X G a_times_of l_times_of k_times_of e_times_of
  have B_times_of : Binds K _ ["one", "other"] [] := C8.Fun.binds F_times_of.fn rfl (ps := ["one", "other"]) fun _ _ _ _ _ _ us hl => match us, hl with | [_, _], _ => rfl
  have c_times_of := ok_times_of (P := P) (w := w) (base := base) F_times_of B_times_of c_made c_poly_times
  have F_back_of := def_of (st := s_back_of) X G a_back_of l_back_of k_back_of e_back_of
  have B_back_of : Binds K _ ["one"] [] := C8.Fun.binds F_back_of.fn rfl (ps := ["one"]) fun _ _ _ _ _ _ us hl => match us, hl with | [_], _ => rfl
  have c_back_of := ok_back_of (P := P) (w := w) (base := base) F_back_of B_back_of c_made
  have F_over_of := def_of (st := s_over_of) X G a_over_of l_over_of k_over_of e_over_of
  have B_over_of : Binds K _ ["one", "other"] [] := C8.Fun.binds F_over_of.fn rfl (ps := ["one", "other"]) fun _ _ _ _ _ _ us hl => match us, hl with | [_, _], _ => rfl
  have c_over_of := ok_over_of (P := P) (w := w) (base := base) F_over_of B_over_of c_times_of c_back_of
  have F_is_int := def_of (st := s_is_int) X G a_is_int l_is_int k_is_int e_is_int
  have B_is_int : Binds K _ ["value"] [] := C8.Fun.binds F_is_int.fn rfl (ps := ["value"]) fun _ _ _ _ _ _ us hl => match us, hl with | [_], _ => rfl
  have c_is_int := ok_is_int (P := P) (w := w) (base := base) F_is_int B_is_int z_isinstance z_int z_bool
  have F_is_ratio := def_of (st := s_is_ratio) X G a_is_ratio l_is_ratio k_is_ratio e_is_ratio
  have B_is_ratio : Binds K _ ["value"] [] := C8.Fun.binds F_is_ratio.fn rfl (ps := ["value"]) fun _ _ _ _ _ _ us hl => match us, hl with | [_], _ => rfl
  have c_is_ratio := ok_is_ratio (P := P) (w := w) (base := base) F_is_ratio B_is_ratio z_isinstance z_tuple z_len z_abs g_MOST_SIZE g_gcd c_is_int
  have F_need_steps := def_of (st := s_need_steps) X G a_need_steps l_need_steps k_need_steps e_need_steps
  have B_need_steps : Binds K _ ["value"] [] := C8.Fun.binds F_need_steps.fn rfl (ps := ["value"]) fun _ _ _ _ _ _ us hl => match us, hl with | [_], _ => rfl
  have c_need_steps := ok_need_steps (P := P) (w := w) (base := base) F_need_steps B_need_steps z_isinstance z_tuple z_len z_enumerate g_MOST_STEPS c_is_ratio
  have F_layer_echo := def_of (st := s_layer_echo) X G a_layer_echo l_layer_echo k_layer_echo e_layer_echo
  have B_layer_echo : Binds K _ ["steps"] [] := C8.Fun.binds F_layer_echo.fn rfl (ps := ["steps"]) fun _ _ _ _ _ _ us hl => match us, hl with | [_], _ => rfl
  have c_layer_echo := ok_layer_echo (P := P) (w := w) (base := base) F_layer_echo B_layer_echo g_VARIABLE g_ONE g_ZERO c_need_steps c_constant_of c_times_of c_plus_of c_over_of
  have F_is_in := def_of (st := s_is_in) X G a_is_in l_is_in k_is_in e_is_in
  have B_is_in : Binds K _ ["value", "least", "most"] [] := C8.Fun.binds F_is_in.fn rfl (ps := ["value", "least", "most"]) fun _ _ _ _ _ _ us hl => match us, hl with | [_, _, _], _ => rfl
  have c_is_in := ok_is_in (P := P) (w := w) (base := base) F_is_in B_is_in c_is_int
  have F_is_below := def_of (st := s_is_below) X G a_is_below l_is_below k_is_below e_is_below
  have B_is_below : Binds K _ ["step"] [] := C8.Fun.binds F_is_below.fn rfl (ps := ["step"]) fun _ _ _ _ _ _ us hl => match us, hl with | [_], _ => rfl
  have c_is_below := ok_is_below (P := P) (w := w) (base := base) F_is_below B_is_below z_abs
  have F_ratio := def_of (st := s_ratio) X G a_ratio l_ratio k_ratio e_ratio
  have B_ratio : Binds K _ ["top", "bottom"] [] := C8.Fun.binds F_ratio.fn rfl (ps := ["top", "bottom"]) fun _ _ _ _ _ _ us hl => match us, hl with | [_, _], _ => rfl
  have c_ratio := ok_ratio (P := P) (w := w) (base := base) F_ratio B_ratio g_gcd (hS)
  have F_plus := def_of (st := s_plus) X G a_plus l_plus k_plus e_plus
  have B_plus : Binds K _ ["one", "other"] [] := C8.Fun.binds F_plus.fn rfl (ps := ["one", "other"]) fun _ _ _ _ _ _ us hl => match us, hl with | [_, _], _ => rfl
  have c_plus := ok_plus (P := P) (w := w) (base := base) F_plus B_plus c_ratio
  have F_minus := def_of (st := s_minus) X G a_minus l_minus k_minus e_minus
  have B_minus : Binds K _ ["one", "other"] [] := C8.Fun.binds F_minus.fn rfl (ps := ["one", "other"]) fun _ _ _ _ _ _ us hl => match us, hl with | [_, _], _ => rfl
  have c_minus := ok_minus (P := P) (w := w) (base := base) F_minus B_minus c_ratio
  have F_times := def_of (st := s_times) X G a_times l_times k_times e_times
  have B_times : Binds K _ ["one", "other"] [] := C8.Fun.binds F_times.fn rfl (ps := ["one", "other"]) fun _ _ _ _ _ _ us hl => match us, hl with | [_, _], _ => rfl
  have c_times := ok_times (P := P) (w := w) (base := base) F_times B_times c_ratio
  have F_before_step := def_of (st := s_before_step) X G a_before_step l_before_step k_before_step e_before_step
  have B_before_step : Binds K _ ["step", "series"] [] := C8.Fun.binds F_before_step.fn rfl (ps := ["step", "series"]) fun _ _ _ _ _ _ us hl => match us, hl with | [_, _], _ => rfl
  have c_before_step := ok_before_step (P := P) (w := w) (base := base) F_before_step B_before_step z_range z_len c_plus c_minus c_times
  have F_echo_series := def_of (st := s_echo_series) X G a_echo_series l_echo_series k_echo_series e_echo_series
  have B_echo_series : Binds K _ ["steps", "many"] [] := C8.Fun.binds F_echo_series.fn rfl (ps := ["steps", "many"]) fun _ _ _ _ _ _ us hl => match us, hl with | [_, _], _ => rfl
  have c_echo_series := ok_echo_series (P := P) (w := w) (base := base) F_echo_series B_echo_series z_all z_tuple g_MOST_STEPS c_need_steps c_is_in c_is_below c_before_step
  have F_over := def_of (st := s_over) X G a_over l_over k_over e_over
  have B_over : Binds K _ ["one", "other"] [] := C8.Fun.binds F_over.fn rfl (ps := ["one", "other"]) fun _ _ _ _ _ _ us hl => match us, hl with | [_, _], _ => rfl
  have c_over := ok_over (P := P) (w := w) (base := base) F_over B_over c_ratio
  have F_behind_step := def_of (st := s_behind_step) X G a_behind_step l_behind_step k_behind_step e_behind_step
  have B_behind_step : Binds K _ ["series"] [] := C8.Fun.binds F_behind_step.fn rfl (ps := ["series"]) fun _ _ _ _ _ _ us hl => match us, hl with | [_], _ => rfl
  have c_behind_step := ok_behind_step (P := P) (w := w) (base := base) F_behind_step B_behind_step z_range z_len c_minus c_times c_plus c_over
  have F_steps_of := def_of (st := s_steps_of) X G a_steps_of l_steps_of k_steps_of e_steps_of
  have B_steps_of : Binds K _ ["series"] [] := C8.Fun.binds F_steps_of.fn rfl (ps := ["series"]) fun _ _ _ _ _ _ us hl => match us, hl with | [_], _ => rfl
  have c_steps_of := ok_steps_of (P := P) (w := w) (base := base) F_steps_of B_steps_of z_list z_len c_need_steps c_is_below c_behind_step
  have F_law_taken := def_of (st := s_law_taken) X G a_law_taken l_law_taken k_law_taken e_law_taken
  have B_law_taken : Binds K _ ["_law_row", "_law_many"] [] := C8.Fun.binds F_law_taken.fn rfl (ps := ["_law_row", "_law_many"]) fun _ _ _ _ _ _ us hl => match us, hl with | [_, _], _ => rfl
  have c_law_taken := ok_law_taken (P := P) (w := w) (base := base) F_law_taken B_law_taken z_int z_len (hS)
  have F_law_shared := def_of (st := s_law_shared) X G a_law_shared l_law_shared k_law_shared e_law_shared
  have B_law_shared : Binds K _ ["_law_one", "_law_other"] [] := C8.Fun.binds F_law_shared.fn rfl (ps := ["_law_one", "_law_other"]) fun _ _ _ _ _ _ us hl => match us, hl with | [_, _], _ => rfl
  have c_law_shared := ok_law_shared (P := P) (w := w) (base := base) F_law_shared B_law_shared z_abs z_range z_int
  have F_law_ratio := def_of (st := s_law_ratio) X G a_law_ratio l_law_ratio k_law_ratio e_law_ratio
  have B_law_ratio : Binds K _ ["_law_top", "_law_bottom"] [] := C8.Fun.binds F_law_ratio.fn rfl (ps := ["_law_top", "_law_bottom"]) fun _ _ _ _ _ _ us hl => match us, hl with | [_, _], _ => rfl
  have c_law_ratio := ok_law_ratio (P := P) (w := w) (base := base) F_law_ratio B_law_ratio c_law_shared (hS)
  have F_law_plus_ratio := def_of (st := s_law_plus_ratio) X G a_law_plus_ratio l_law_plus_ratio k_law_plus_ratio e_law_plus_ratio
  have B_law_plus_ratio : Binds K _ ["_law_one", "_law_other"] [] := C8.Fun.binds F_law_plus_ratio.fn rfl (ps := ["_law_one", "_law_other"]) fun _ _ _ _ _ _ us hl => match us, hl with | [_, _], _ => rfl
  have c_law_plus_ratio := ok_law_plus_ratio (P := P) (w := w) (base := base) F_law_plus_ratio B_law_plus_ratio c_law_ratio
  have F_law_times_ratio := def_of (st := s_law_times_ratio) X G a_law_times_ratio l_law_times_ratio k_law_times_ratio e_law_times_ratio
  have B_law_times_ratio : Binds K _ ["_law_one", "_law_other"] [] := C8.Fun.binds F_law_times_ratio.fn rfl (ps := ["_law_one", "_law_other"]) fun _ _ _ _ _ _ us hl => match us, hl with | [_, _], _ => rfl
  have c_law_times_ratio := ok_law_times_ratio (P := P) (w := w) (base := base) F_law_times_ratio B_law_times_ratio c_law_ratio
  have F_law_less_ratio := def_of (st := s_law_less_ratio) X G a_law_less_ratio l_law_less_ratio k_law_less_ratio e_law_less_ratio
  have B_law_less_ratio : Binds K _ ["_law_one", "_law_other"] [] := C8.Fun.binds F_law_less_ratio.fn rfl (ps := ["_law_one", "_law_other"]) fun _ _ _ _ _ _ us hl => match us, hl with | [_, _], _ => rfl
  have c_law_less_ratio := ok_law_less_ratio (P := P) (w := w) (base := base) F_law_less_ratio B_law_less_ratio 
  have F_law_steps := def_of (st := s_law_steps) X G a_law_steps l_law_steps k_law_steps e_law_steps
  have B_law_steps : Binds K _ ["_law_row", "_law_most"] [] := C8.Fun.binds F_law_steps.fn rfl (ps := ["_law_row", "_law_most"]) fun _ _ _ _ _ _ us hl => match us, hl with | [_, _], _ => rfl
  have c_law_steps := ok_law_steps (P := P) (w := w) (base := base) F_law_steps B_law_steps z_range z_tuple c_law_taken c_law_ratio
  have F_law := def_of (st := s_law) X G a_law l_law k_law e_law
  exact ok_law F_law z_isinstance z_tuple z_len z_range c_law_taken c_law_steps c_layer_echo c_echo_series c_law_plus_ratio c_law_times_ratio c_steps_of c_law_less_ratio hlaw
end W

namespace W
open DL MS L2
theorem cut_sl {G : Ser Rat} {m n : Nat} : cutD (sl G n) none (some (m : Int)) = sl G (min m n) := by
  rw [cut_nat]
  unfold sl
  rw [← List.map_take, List.take_range]
theorem pl_sl (G : Ser Rat) (m : Nat) : plT 60 (.tup (sl G m)) = true := pls_all fun d hd => by
  obtain ⟨i, _, rfl⟩ := List.mem_map.mp hd
  exact pl_encR 58 _
theorem pl_encS (ks : List Rat) : plT 60 (encS ks) = true := pls_all fun d hd => by
  obtain ⟨i, _, rfl⟩ := List.mem_map.mp hd
  exact pl_encR 58 _
theorem plain_law : ∀ ns : List Int, ns.length ≤ 63 → ∃ s', g_law (lawEnv 10) ⟨ns, 0, 3392, 0⟩ = .ret (.bl true) s' := by
  intro ns _
  have d0 : Dr ⟨ns, 0, 3392, 0⟩ := ⟨by show (0 : Int) ≤ 0; decide, by show (0 : Int) ≤ 3392; decide, by show (3392 : Int) < 2147483647; decide⟩
  obtain ⟨ks, s1, a1, a2, a3, a4⟩ := e_law_steps d0
  obtain ⟨v, s, b1, b2, b3, b4⟩ := e_taken (m := 9) a4 (by decide)
  obtain ⟨m, hm⟩ : ∃ m : Nat, 1 + v = m := ⟨(1 + v).toNat, by omega⟩
  refine ⟨s, ?_⟩
  have ek : ks.dropLast ++ [ks.getLast a3] = ks := List.dropLast_concat_getLast a3
  have kl : 1 ≤ ks.length := List.length_pos_iff.mpr a3
  have kl6 := a2.len
  have a2' : St (ks.dropLast ++ [ks.getLast a3]) := by rw [ek]; exact a2
  have c1 := e_echo_series (m := m) a2' (by omega) (by omega) s
  obtain ⟨t, b, c2, c3⟩ := e_layer_echo a2' s
  have c4 := e_echo_series (m := ks.length) a2' (by omega) (by omega) s
  have c5 := e_steps_of a2 a3 s
  have c6 := e_echo_series (m := 12) a2' (by omega) (by omega) s
  rw [ek] at c1 c2 c3 c4 c6
  obtain ⟨l1, l2⟩ := fr_len a2 a3 c3
  have hb : Bd 355 b := (c3.bd (nd_ex a2) room).2.1
  obtain ⟨e6, e7, e8, lp⟩ := lw_out (s := s) (m := m) a2 hb c3 (o0 := .no) (o1 := .val .row) (o2 := .val (encS ks)) (o3 := .val (.int m)) (o9 := .no) (o10 := .no) (o11 := .no) (by omega) .no .no .no rfl rfl
  obtain ⟨w1, w2⟩ := wpow a2 9
  have el : sl (serS ks) m = ((List.range m).map (serS ks).c).map encR := by unfold sl; rw [List.map_map]; rfl
  obtain ⟨e11, pw⟩ := pw_loop (s := s) w1 (Nat.lt_of_lt_of_le w2 (Nat.pow_le_pow_right (by decide) (by decide))) (o0 := .no) (o1 := .val .row) (o2 := .val (encS ks)) (o3 := .val (.int m)) (o4 := .val (.tup (sl (serS ks) m))) (o5 := .val (encF t b)) (o6 := e6) (o7 := e7) (o8 := e8) (o9 := .val (.tup (sl (serS ks) ks.length)))
    ((List.range m).map (serS ks).c) 0 0 .no (fun r hr => by
      obtain ⟨i, hi, rfl⟩ := List.mem_map.mp hr
      have hi' := List.mem_range.mp hi
      exact ⟨(serS_nd ks i).up (Nat.pow_dvd_pow _ (by omega)), serS_ab a2.ab i⟩) (Dn.int 0) Ab.zero (by rw [List.length_map, List.length_range]; omega) rfl
  rw [fold_sq, ← el, enc0] at pw
  have tot := (serS_ct ks a2.ab).sum m
  have sqd : ∀ p, p ≤ 9 → Dn (MS.prd ks ^ 9 * MS.prd ks ^ 9) (sq (serS ks) p) := fun p => by
    induction p with
    | zero => intro _; exact Dn.int 0
    | succ p ih =>
      intro hp
      have d := (serS_nd ks p).up (Nat.pow_dvd_pow (MS.prd ks) (show p + 1 ≤ 9 by omega))
      exact (ih (by omega)).add (d.mul d)
  have mm2 : MS.prd ks ^ 9 * MS.prd ks ^ 9 < 2 ^ (16 * 9 + 1 + (16 * 9 + 1)) := by
    rw [Nat.pow_add 2]
    exact Nat.mul_lt_mul'' w2 w2
  have sab : Ab 1 (sq (serS ks) m) := ⟨by
    have := sq_nn (serS ks) m
    have e1 : -(((1 : Nat) : Int) : Rat) = -1 := rfl
    rw [e1]
    grind, tot⟩
  have zs := (rz_of (sqd m (by omega)) (Nat.mul_ne_zero w1 w1) mm2 sab (show 1 < 2 ^ 1 by decide)).mono (show 16 * 9 + 1 + (16 * 9 + 1) + 1 ≤ 400 by decide)
  have z1 : Rz 400 (1 : Rat) := ⟨Sm.mono (n := 1) (by unfold Sm; decide) (by decide), Sm.mono (n := 1) (by unfold Sm; decide) (by decide)⟩
  have ls := e_law_less z1 zs (by decide) s
  rw [decide_eq_false (Rat.not_lt.mpr tot), enc1] at ls
  have n1 := ne_same (pl_encS ks)
  have k1 := cut_sl (G := serS ks) (m := m) (n := 12)
  have k2 := cut_sl (G := serS ks) (m := 12) (n := m)
  have q12 : ((12 : Nat) : Int) = 12 := rfl
  rw [q12] at k2
  rw [Nat.min_eq_left (by omega)] at k1
  rw [Nat.min_eq_right (by omega)] at k2
  have n2 := ne_same (pl_sl (serS ks) m)
  have ln : ((sl (serS ks) m).length : Int) = m := by rw [sl_len]
  have lk : (encS ks).st = true := rfl
  have lks : gLen [encS ks] = some (.int ks.length) := by unfold encS; rw [gLen_t, List.length_map]
  have nb : ¬ ((ks.length : Int) < b.length) := by omega
  have c12 : ((12 : Nat) : Int) = 12 := rfl
  rw [c12] at c6
  have m1 : -2305843009213693952 ≤ (m : Int) := by omega
  have m2 : (m : Int) ≤ 2305843009213693952 := by omega
  unfold lwTurn lwIn at lp
  have bx : gIx (encF t b) (.int 1) = some (encL b) := by unfold encF; simp
  have bl : gLen [encL b] = some (.int b.length) := by unfold encL; rw [gLen_t, List.length_map]
  have ob : (encF t b).st = true := rfl
  have lz : (encR (sq (serS ks) m)).st = true := rfl
  clear z1 zs sab mm2 sqd tot w1 w2 el c3 hb l1 l2 a2' ek
  unfold g_law lawEnv
  generalize m_law_steps = f1 at *
  generalize m_law_taken = f2' at *
  generalize m_echo_series = f3' at *
  generalize m_layer_echo = f4 at *
  generalize m_steps_of = f5 at *
  generalize m_law_plus_ratio = f6 at *
  generalize m_law_times_ratio = f7 at *
  generalize m_law_less_ratio = f8 at *
  generalize encF t b = T at *
  generalize encL b = TB at *
  generalize hE : encS ks = E at *
  generalize encR (sq (serS ks) m) = Z at *
  generalize sl (serS ks) 12 = S12 at *
  generalize sl (serS ks) ks.length = SL at *
  generalize sl (serS ks) m = S at *
  simp [a1, b1, hm, c1, c2, c4, c5, c6, lk, ob, ln, nb, bx, bl, lks, m1, m2, lp, n1, n2, k1, k2, pw, ls, lz]
end W

open PySem PySem.W PyProof.Rows
set_option maxHeartbeats 0 in
theorem PySem.Challenge.cw_coilnets_k92_whole_echoes_of_layers_holds : PySem.Challenge.rw_coilnets_k92_whole_echoes_of_layers.Holds := by
  w_on; o_law; k_head; (case hw => w_witness2)
  k_fill
  refine DL.law_walk (l := PySem.Challenge.rw_coilnets_k92_whole_echoes_of_layers) (k := 50) (x := "_law_script") rfl rfl (by decide) ⟨rfl, by decide, by decide⟩ (fun w h Y => PySem.W.kIn_of Y) ?F
  case F =>
    intro w mg fa h KX G hmg
    refine' W.all_mk KX G rfl hmg W.plain_law ?a_constant_of ?l_constant_of ?k_constant_of ?e_constant_of ?a_trimmed ?l_trimmed ?k_trimmed ?e_trimmed ?a_poly_plus ?l_poly_plus ?k_poly_plus ?e_poly_plus ?a_poly_times ?l_poly_times ?k_poly_times ?e_poly_times ?a_content ?l_content ?k_content ?e_content ?a_primitive ?l_primitive ?k_primitive ?e_primitive ?a_scaled ?l_scaled ?k_scaled ?e_scaled ?a_poly_minus ?l_poly_minus ?k_poly_minus ?e_poly_minus ?a_remainder ?l_remainder ?k_remainder ?e_remainder ?a_common ?l_common ?k_common ?e_common ?a_quotient ?l_quotient ?k_quotient ?e_quotient ?a_made ?l_made ?k_made ?e_made ?a_plus_of ?l_plus_of ?k_plus_of ?e_plus_of ?a_times_of ?l_times_of ?k_times_of ?e_times_of ?a_back_of ?l_back_of ?k_back_of ?e_back_of ?a_over_of ?l_over_of ?k_over_of ?e_over_of ?a_is_int ?l_is_int ?k_is_int ?e_is_int ?a_is_ratio ?l_is_ratio ?k_is_ratio ?e_is_ratio ?a_need_steps ?l_need_steps ?k_need_steps ?e_need_steps ?a_layer_echo ?l_layer_echo ?k_layer_echo ?e_layer_echo ?a_is_in ?l_is_in ?k_is_in ?e_is_in ?a_is_below ?l_is_below ?k_is_below ?e_is_below ?a_ratio ?l_ratio ?k_ratio ?e_ratio ?a_plus ?l_plus ?k_plus ?e_plus ?a_minus ?l_minus ?k_minus ?e_minus ?a_times ?l_times ?k_times ?e_times ?a_before_step ?l_before_step ?k_before_step ?e_before_step ?a_echo_series ?l_echo_series ?k_echo_series ?e_echo_series ?a_over ?l_over ?k_over ?e_over ?a_behind_step ?l_behind_step ?k_behind_step ?e_behind_step ?a_steps_of ?l_steps_of ?k_steps_of ?e_steps_of ?a_law_taken ?l_law_taken ?k_law_taken ?e_law_taken ?a_law_shared ?l_law_shared ?k_law_shared ?e_law_shared ?a_law_ratio ?l_law_ratio ?k_law_ratio ?e_law_ratio ?a_law_plus_ratio ?l_law_plus_ratio ?k_law_plus_ratio ?e_law_plus_ratio ?a_law_times_ratio ?l_law_times_ratio ?k_law_times_ratio ?e_law_times_ratio ?a_law_less_ratio ?l_law_less_ratio ?k_law_less_ratio ?e_law_less_ratio ?a_law_steps ?l_law_steps ?k_law_steps ?e_law_steps ?a_law ?l_law ?k_law ?e_law ?z_len ?z_tuple ?z_max ?z_zip ?z_enumerate ?z_abs ?z_list ?z_range ?z_isinstance ?z_int ?z_bool ?z_all ?lq2 ?lq3 ?lq1 ?n_ZERO ?n_gcd ?n_MOST_SIZE ?n_MOST_STEPS ?lq8 ?lq11 ?lq7 ?n_VARIABLE ?lq14 ?lq16 ?lq13 ?n_ONE
    (case a_constant_of => k_is)
    (case l_constant_of => k_is)
    (case k_constant_of => k_is)
    (case e_constant_of => k_is)
    (case a_trimmed => k_is)
    (case l_trimmed => k_is)
    (case k_trimmed => k_is)
    (case e_trimmed => k_is)
    (case a_poly_plus => k_is)
    (case l_poly_plus => k_is)
    (case k_poly_plus => k_is)
    (case e_poly_plus => k_is)
    (case a_poly_times => k_is)
    (case l_poly_times => k_is)
    (case k_poly_times => k_is)
    (case e_poly_times => k_is)
    (case a_content => k_is)
    (case l_content => k_is)
    (case k_content => k_is)
    (case e_content => k_is)
    (case a_primitive => k_is)
    (case l_primitive => k_is)
    (case k_primitive => k_is)
    (case e_primitive => k_is)
    (case a_scaled => k_is)
    (case l_scaled => k_is)
    (case k_scaled => k_is)
    (case e_scaled => k_is)
    (case a_poly_minus => k_is)
    (case l_poly_minus => k_is)
    (case k_poly_minus => k_is)
    (case e_poly_minus => k_is)
    (case a_remainder => k_is)
    (case l_remainder => k_is)
    (case k_remainder => k_is)
    (case e_remainder => k_is)
    (case a_common => k_is)
    (case l_common => k_is)
    (case k_common => k_is)
    (case e_common => k_is)
    (case a_quotient => k_is)
    (case l_quotient => k_is)
    (case k_quotient => k_is)
    (case e_quotient => k_is)
    (case a_made => k_is)
    (case l_made => k_is)
    (case k_made => k_is)
    (case e_made => k_is)
    (case a_plus_of => k_is)
    (case l_plus_of => k_is)
    (case k_plus_of => k_is)
    (case e_plus_of => k_is)
    (case a_times_of => k_is)
    (case l_times_of => k_is)
    (case k_times_of => k_is)
    (case e_times_of => k_is)
    (case a_back_of => k_is)
    (case l_back_of => k_is)
    (case k_back_of => k_is)
    (case e_back_of => k_is)
    (case a_over_of => k_is)
    (case l_over_of => k_is)
    (case k_over_of => k_is)
    (case e_over_of => k_is)
    (case a_is_int => k_is)
    (case l_is_int => k_is)
    (case k_is_int => k_is)
    (case e_is_int => k_is)
    (case a_is_ratio => k_is)
    (case l_is_ratio => k_is)
    (case k_is_ratio => k_is)
    (case e_is_ratio => k_is)
    (case a_need_steps => k_is)
    (case l_need_steps => k_is)
    (case k_need_steps => k_is)
    (case e_need_steps => k_is)
    (case a_layer_echo => k_is)
    (case l_layer_echo => k_is)
    (case k_layer_echo => k_is)
    (case e_layer_echo => k_is)
    (case a_is_in => k_is)
    (case l_is_in => k_is)
    (case k_is_in => k_is)
    (case e_is_in => k_is)
    (case a_is_below => k_is)
    (case l_is_below => k_is)
    (case k_is_below => k_is)
    (case e_is_below => k_is)
    (case a_ratio => k_is)
    (case l_ratio => k_is)
    (case k_ratio => k_is)
    (case e_ratio => k_is)
    (case a_plus => k_is)
    (case l_plus => k_is)
    (case k_plus => k_is)
    (case e_plus => k_is)
    (case a_minus => k_is)
    (case l_minus => k_is)
    (case k_minus => k_is)
    (case e_minus => k_is)
    (case a_times => k_is)
    (case l_times => k_is)
    (case k_times => k_is)
    (case e_times => k_is)
    (case a_before_step => k_is)
    (case l_before_step => k_is)
    (case k_before_step => k_is)
    (case e_before_step => k_is)
    (case a_echo_series => k_is)
    (case l_echo_series => k_is)
    (case k_echo_series => k_is)
    (case e_echo_series => k_is)
    (case a_over => k_is)
    (case l_over => k_is)
    (case k_over => k_is)
    (case e_over => k_is)
    (case a_behind_step => k_is)
    (case l_behind_step => k_is)
    (case k_behind_step => k_is)
    (case e_behind_step => k_is)
    (case a_steps_of => k_is)
    (case l_steps_of => k_is)
    (case k_steps_of => k_is)
    (case e_steps_of => k_is)
    (case a_law_taken => k_is)
    (case l_law_taken => k_is)
    (case k_law_taken => k_is)
    (case e_law_taken => k_is)
    (case a_law_shared => k_is)
    (case l_law_shared => k_is)
    (case k_law_shared => k_is)
    (case e_law_shared => k_is)
    (case a_law_ratio => k_is)
    (case l_law_ratio => k_is)
    (case k_law_ratio => k_is)
    (case e_law_ratio => k_is)
    (case a_law_plus_ratio => k_is)
    (case l_law_plus_ratio => k_is)
    (case k_law_plus_ratio => k_is)
    (case e_law_plus_ratio => k_is)
    (case a_law_times_ratio => k_is)
    (case l_law_times_ratio => k_is)
    (case k_law_times_ratio => k_is)
    (case e_law_times_ratio => k_is)
    (case a_law_less_ratio => k_is)
    (case l_law_less_ratio => k_is)
    (case k_law_less_ratio => k_is)
    (case e_law_less_ratio => k_is)
    (case a_law_steps => k_is)
    (case l_law_steps => k_is)
    (case k_law_steps => k_is)
    (case e_law_steps => k_is)
    (case a_law => k_is)
    (case l_law => k_is)
    (case k_law => k_is)
    (case e_law => k_is)
    (case z_len => k_is)
    (case z_tuple => k_is)
    (case z_max => k_is)
    (case z_zip => k_is)
    (case z_enumerate => k_is)
    (case z_abs => k_is)
    (case z_list => k_is)
    (case z_range => k_is)
    (case z_isinstance => k_is)
    (case z_int => k_is)
    (case z_bool => k_is)
    (case z_all => k_is)
    (case n_ZERO => k_is)
    (case lq1 => k_is)
    (case lq2 => k_is)
    (case lq3 => k_is)
    (case n_gcd => k_is)
    (case n_MOST_SIZE => k_is)
    (case n_MOST_STEPS => k_is)
    (case n_VARIABLE => k_is)
    (case lq7 => k_is)
    (case lq8 => k_is)
    (case lq11 => k_is)
    (case n_ONE => k_is)
    (case lq13 => k_is)
    (case lq14 => k_is)
    (case lq16 => k_is)

