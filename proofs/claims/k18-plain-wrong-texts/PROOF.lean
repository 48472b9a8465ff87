import PyProof.Rows.All
import Wide.All
import OpenK.AllK
import Wide.FinOn
import HandS.ForMost
import HandS.ForExc
import HandS.CallSlots
import HandS.TupAny
import HandS.Flow
import HandS.IsInst
import HandS.Style
import HandS.TupLe
import HandS.Wide
import PyProof.NeKinds
import HandS.Text
import HandS.StrMore
import HandS.SortRule
import HandS.SortInts
import HandS.Iter
import HandS.Comp
import HandS.ExcCtx
import HandS.NoneIn
import HandS.Conv
import HandS.Strs
import HandS.Replace
import HandS.FStr
import HandS.ExcInit
import HandS.TryMany
import HandS.TryOnly
import HandS.HotCalls
import HandS.ExcInitHot
import KE.GoesRaise
import PyProof.Rows.StrIntSpec
import PyProof.FString3
import HandS.ReplaceLit
import HandS.ReplaceDef
import HandS.Bytes
import KE.KStrBytes
import KE.KBytesIn
import HandS.Dict
import PyProof.StrOps2
import KE.KExcIs
import HandS.ExcIs
import PySem.Challenge.RW_bothdays_k18_plain_wrong_texts
import KE.OsScanText
import HandS.ReplaceList
import PyProof.Rows.StrPins
import PyProof.Rows.StrDigitsNeg
import KE.KIntText
import PyProof.Rows.ReprOcc
set_option Elab.async false
set_option linter.all false
set_option maxRecDepth 100000
/-! A layer over HandS: what a def does as a FUNCTION of plain data. -/
namespace Mi
open PySem PySem.Spec PyProof.Rows L2

/-- plain data, never changed -/
inductive D where
  | non | bl (b : Bool) | int (i : Int) | str (x : Str) | byt (b : Array UInt8)
  | tup (xs : List D) | lst (xs : List D) | frz (xs : List D)
/-- what a name holds: data, or the cell n -/
inductive W where
  | d (x : D) | l (n : Nat)
/-- a cell: an object that is changed -/
inductive C where
  | gone | lst (xs : List D)
structure Ex where
  cls : Str
  ks : List Str
  vs : List D
inductive R (α : Type) where
  | ok (a : α) (S : List C) | exc (x : Ex) (S : List C) | bad
def R.bind {α β : Type} (r : R α) (f : α → List C → R β) : R β := match r with
  | .ok a S => f a S
  | .exc x S => .exc x S
  | .bad => .bad

/-! ### how data lie in the heap -/
section
variable (K : PySem.W.Frag) (H : Hp) (B : Addr → Prop)
def SqTB (a : Addr) (vs : List V) : Prop := (Rd H a (.tup vs) ∧ ¬ B a) ∨ SqT K (fun _ => none) a vs
def SqLB (a : Addr) (vs : List V) : Prop := (Rd H a (.lst vs) ∧ ¬ B a) ∨ SqL K (fun _ => none) a vs
mutual
def Rep : D → V → Prop
  | .non, v => v = .non
  | .bl b, v => v = .bl b
  | .int i, v => v = .int i
  | .str x, v => v = .str x ∧ x.length ≤ sizeLine
  | .byt b, v => v = .byt b ∧ b.size ≤ 16777216
  | .tup ds, v => ∃ a vs, v = .ref a ∧ SqTB K H B a vs ∧ Reps ds vs
  | .lst ds, v => ∃ a vs, v = .ref a ∧ H a = some (.lst vs) ∧ ¬ B a ∧ Reps ds vs
  | .frz ds, v => ∃ a vs, v = .ref a ∧ SqLB K H B a vs ∧ Reps ds vs
def Reps : List D → List V → Prop
  | [], vs => vs = []
  | d :: ds, vs => ∃ v r, vs = v :: r ∧ Rep d v ∧ Reps ds r
end
end
theorem SqTB.of {K H B a vs} (h : SqTB K H B a vs) : SqT K H a vs := by
  rcases h with ⟨h, _⟩ | h
  · exact .inl h
  · rcases h with (h | ⟨o, h⟩) | h
    · cases h
    · cases h
    · exact .inr h
theorem SqLB.of {K H B a vs} (h : SqLB K H B a vs) : SqL K H a vs := by
  rcases h with ⟨h, _⟩ | h
  · exact .inl h
  · rcases h with (h | ⟨o, h⟩) | h
    · cases h
    · cases h
    · exact .inr h
/-- the heap goes on: what is tracked and not barred stays, and is not barred -/
structure Ev (H : Hp) (B : Addr → Prop) (H' : Hp) (B' : Addr → Prop) : Prop where
  keep : ∀ b o, H b = some o → ¬ B b → H' b = some o
  nb : ∀ b o, H b = some o → ¬ B b → ¬ B' b
section
variable {K : PySem.W.Frag} {H H' : Hp} {B B' : Addr → Prop}
theorem Ev.rd {a u} (e : Ev H B H' B') (h : Rd H a u) (n : ¬ B a) : Rd H' a u ∧ ¬ B' a := by
  rcases h with h | ⟨o, h⟩
  · exact ⟨.inl (e.keep _ _ h n), e.nb _ _ h n⟩
  · exact ⟨.inr ⟨o, e.keep _ _ h n⟩, e.nb _ _ h n⟩
theorem SqTB.mono {a vs} (e : Ev H B H' B') (h : SqTB K H B a vs) : SqTB K H' B' a vs := by
  rcases h with ⟨h, n⟩ | h
  · exact .inl (e.rd h n)
  · exact .inr h
theorem SqLB.mono {a vs} (e : Ev H B H' B') (h : SqLB K H B a vs) : SqLB K H' B' a vs := by
  rcases h with ⟨h, n⟩ | h
  · exact .inl (e.rd h n)
  · exact .inr h
mutual
theorem Rep.mono (e : Ev H B H' B') : ∀ (d : D) (v : V), Rep K H B d v → Rep K H' B' d v
  | .non, _, h => by simpa only [Rep] using h
  | .bl _, _, h => by simpa only [Rep] using h
  | .int _, _, h => by simpa only [Rep] using h
  | .str _, _, h => by simpa only [Rep] using h
  | .byt _, _, h => by simpa only [Rep] using h
  | .tup ds, v, h => by
    simp only [Rep] at h ⊢
    obtain ⟨a, vs, e1, e2, e3⟩ := h
    exact ⟨a, vs, e1, e2.mono e, Reps.mono e ds vs e3⟩
  | .lst ds, v, h => by
    simp only [Rep] at h ⊢
    obtain ⟨a, vs, e1, e2, e4, e3⟩ := h
    exact ⟨a, vs, e1, e.keep _ _ e2 e4, e.nb _ _ e2 e4, Reps.mono e ds vs e3⟩
  | .frz ds, v, h => by
    simp only [Rep] at h ⊢
    obtain ⟨a, vs, e1, e2, e3⟩ := h
    exact ⟨a, vs, e1, e2.mono e, Reps.mono e ds vs e3⟩
theorem Reps.mono (e : Ev H B H' B') : ∀ (ds : List D) (vs : List V), Reps K H B ds vs → Reps K H' B' ds vs
  | [], _, h => by simpa only [Reps] using h
  | d :: ds, vs, h => by
    simp only [Reps] at h ⊢
    obtain ⟨v, r, e1, e2, e3⟩ := h
    exact ⟨v, r, e1, Rep.mono e d v e2, Reps.mono e ds r e3⟩
end
theorem Reps.length : ∀ {ds : List D} {vs : List V}, Reps K H B ds vs → vs.length = ds.length
  | [], vs, h => by simp only [Reps] at h; subst h; rfl
  | d :: ds, vs, h => by
    simp only [Reps] at h
    obtain ⟨v, r, rfl, _, h⟩ := h
    simp [Reps.length h]
theorem Reps.nil : Reps K H B [] [] := by simp only [Reps]
theorem Reps.cons {d v ds vs} (h : Rep K H B d v) (t : Reps K H B ds vs) : Reps K H B (d :: ds) (v :: vs) := by
  simp only [Reps]
  exact ⟨v, vs, rfl, h, t⟩
theorem Reps.nil_inv {vs} (h : Reps K H B [] vs) : vs = [] := by simpa only [Reps] using h
theorem Reps.cons_inv {d ds vs} (h : Reps K H B (d :: ds) vs) : ∃ v r, vs = v :: r ∧ Rep K H B d v ∧ Reps K H B ds r := by simpa only [Reps] using h
theorem Reps.get : ∀ {ds : List D} {vs : List V} {i : Nat} {d : D}, Reps K H B ds vs → ds[i]? = some d → ∃ v, vs[i]? = some v ∧ Rep K H B d v
  | [], _, _, _, _, e => by simp at e
  | _ :: _, _, 0, _, h, e => by
    obtain ⟨v, r, rfl, h1, _⟩ := h.cons_inv
    simp at e; subst e
    exact ⟨v, rfl, h1⟩
  | _ :: ds, _, i + 1, d, h, e => by
    obtain ⟨v, r, rfl, _, h1⟩ := h.cons_inv
    obtain ⟨u, e1, e2⟩ := Reps.get (i := i) h1 (by simpa using e)
    exact ⟨u, by simpa using e1, e2⟩
theorem Reps.set {d : D} {v : V} (r : Rep K H B d v) : ∀ {ds : List D} {vs : List V} (i : Nat), Reps K H B ds vs → Reps K H B (ds.set i d) (vs.set i v)
  | [], _, _, h => by rw [h.nil_inv]; simp only [List.set_nil]; exact Reps.nil
  | _ :: _, _, 0, h => by
    obtain ⟨u, q, rfl, h1, h2⟩ := h.cons_inv
    exact Reps.cons r h2
  | _ :: ds, _, i + 1, h => by
    obtain ⟨u, q, rfl, h1, h2⟩ := h.cons_inv
    exact Reps.cons h1 (Reps.set r i h2)
theorem Reps.append : ∀ {ds es : List D} {vs us : List V}, Reps K H B ds vs → Reps K H B es us → Reps K H B (ds ++ es) (vs ++ us)
  | [], _, _, _, h, t => by rw [h.nil_inv]; exact t
  | _ :: _, _, _, _, h, t => by
    obtain ⟨u, q, rfl, h1, h2⟩ := h.cons_inv
    exact Reps.cons h1 (Reps.append h2 t)
theorem Reps.take : ∀ {ds : List D} {vs : List V} (n : Nat), Reps K H B ds vs → Reps K H B (ds.take n) (vs.take n)
  | _, _, 0, _ => by simp only [List.take_zero]; exact Reps.nil
  | [], _, _ + 1, h => by rw [h.nil_inv]; exact Reps.nil
  | _ :: _, _, n + 1, h => by
    obtain ⟨u, q, rfl, h1, h2⟩ := h.cons_inv
    exact Reps.cons h1 (Reps.take n h2)
theorem Reps.drop : ∀ {ds : List D} {vs : List V} (n : Nat), Reps K H B ds vs → Reps K H B (ds.drop n) (vs.drop n)
  | _, _, 0, r => r
  | [], _, _ + 1, h => by rw [h.nil_inv]; exact Reps.nil
  | _ :: _, _, n + 1, h => by
    obtain ⟨u, q, rfl, h1, h2⟩ := h.cons_inv
    exact Reps.drop n h2
theorem Reps.reverse : ∀ {ds : List D} {vs : List V}, Reps K H B ds vs → Reps K H B ds.reverse vs.reverse
  | [], _, h => by rw [h.nil_inv]; exact Reps.nil
  | _ :: _, _, h => by
    obtain ⟨u, q, rfl, h1, h2⟩ := h.cons_inv
    rw [List.reverse_cons, List.reverse_cons]
    exact Reps.append (Reps.reverse h2) (Reps.cons h1 Reps.nil)
end

/-! ### cells -/
def bar (F : Addr → Prop) (ρ : List (Option Addr)) : Addr → Prop := fun a => F a ∨ some a ∈ ρ
def CRep (K : PySem.W.Frag) (H : Hp) (B : Addr → Prop) (a : Addr) : C → Prop
  | .gone => False
  | .lst ds => ∃ vs, H a = some (.lst vs) ∧ Reps K H B ds vs
def RepW (K : PySem.W.Frag) (H : Hp) (F : Addr → Prop) (ρ : List (Option Addr)) : W → V → Prop
  | .d x, v => Rep K H (bar F ρ) x v
  | .l n, v => n < ρ.length ∧ ∀ a, ρ[n]? = some (some a) → v = .ref a
structure Rl (K : PySem.W.Frag) (F : Addr → Prop) (ρ : List (Option Addr)) (S : List C) (H : Hp) : Prop where
  len : ρ.length = S.length
  cell : ∀ (n : Nat) a, ρ[n]? = some (some a) → ∃ c, S[n]? = some c ∧ CRep K H (bar F ρ) a c
  live : ∀ (n : Nat) c, S[n]? = some c → c ≠ .gone → ∃ a, ρ[n]? = some (some a)
  inj : ∀ (n m : Nat) a, ρ[n]? = some (some a) → ρ[m]? = some (some a) → n = m
  dom : ∀ a, F a → H a ≠ none
  sep : ∀ (n : Nat) a, ρ[n]? = some (some a) → ¬ F a
/-- from one state on to another -/
structure Ext (ρ : List (Option Addr)) (H : Hp) (ρ' : List (Option Addr)) (H' : Hp) : Prop where
  keep : ∀ b o, H b = some o → some b ∉ ρ → H' b = some o
  len : ρ.length ≤ ρ'.length
  old : ∀ (n : Nat) a, n < ρ.length → ρ'[n]? = some (some a) → ρ[n]? = some (some a)
  new : ∀ a, some a ∈ ρ' → some a ∈ ρ ∨ H a = none
theorem Ext.refl (ρ : List (Option Addr)) (H : Hp) : Ext ρ H ρ H := ⟨fun _ _ h _ => h, Nat.le_refl _, fun _ _ _ h => h, fun _ h => .inl h⟩
theorem Ext.trans {ρ ρ1 ρ2 : List (Option Addr)} {H H1 H2 : Hp} (a : Ext ρ H ρ1 H1) (b : Ext ρ1 H1 ρ2 H2) : Ext ρ H ρ2 H2 where
  keep := fun c o h n => b.keep c o (a.keep c o h n) fun m => by
    rcases a.new c m with q | q
    · exact n q
    · rw [h] at q; cases q
  len := Nat.le_trans a.len b.len
  old := fun n c h q => a.old n c h (b.old n c (Nat.lt_of_lt_of_le h a.len) q)
  new := fun c m => by
    rcases b.new c m with q | q
    · exact a.new c q
    · by_cases r : some c ∈ ρ
      · exact .inl r
      · cases e : H c with
        | none => exact .inr rfl
        | some o => rw [a.keep c o e r] at q; cases q
theorem Ext.ev {ρ ρ' : List (Option Addr)} {H H' : Hp} (a : Ext ρ H ρ' H') (F : Addr → Prop) : Ev H (bar F ρ) H' (bar F ρ') where
  keep := fun b o h n => a.keep b o h fun m => n (.inr m)
  nb := fun b o h n m => by
    rcases m with m | m
    · exact n (.inl m)
    · rcases a.new b m with q | q
      · exact n (.inr q)
      · rw [h] at q; cases q
theorem RepW.mono {K : PySem.W.Frag} {F : Addr → Prop} {ρ ρ' : List (Option Addr)} {H H' : Hp} (a : Ext ρ H ρ' H') : ∀ {x : W} {v : V}, RepW K H F ρ x v → RepW K H' F ρ' x v
  | .d x, v, h => Rep.mono (a.ev F) x v h
  | .l n, v, h => ⟨Nat.lt_of_lt_of_le h.1 a.len, fun b q => h.2 b (a.old n b h.1 q)⟩
/-- the names' slots -/
def RepO (K : PySem.W.Frag) (H : Hp) (F : Addr → Prop) (ρ : List (Option Addr)) : Option W → Option V → Prop
  | none, _ => True
  | some x, some v => RepW K H F ρ x v
  | some _, none => False
def RepWs (K : PySem.W.Frag) (H : Hp) (F : Addr → Prop) (ρ : List (Option Addr)) : List W → List V → Prop
  | [], vs => vs = []
  | x :: xs, vs => ∃ v r, vs = v :: r ∧ RepW K H F ρ x v ∧ RepWs K H F ρ xs r
abbrev Slots (K : PySem.W.Frag) (H : Hp) (F : Addr → Prop) (ρ : List (Option Addr)) (w : List (Option W)) (σ : L2.St) : Prop := w.length = σ.length ∧ ∀ (i : Nat) x, w[i]? = some (some x) → ∃ v, σ[i]? = some (some v) ∧ RepW K H F ρ x v
section
variable {K : PySem.W.Frag} {F : Addr → Prop} {ρ ρ' : List (Option Addr)} {H H' : Hp}
theorem Slots.mono (a : Ext ρ H ρ' H') {w σ} (h : Slots K H F ρ w σ) : Slots K H' F ρ' w σ := ⟨h.1, fun i x e => let ⟨v, q, r⟩ := h.2 i x e; ⟨v, q, r.mono a⟩⟩
theorem RepWs.mono (a : Ext ρ H ρ' H') : ∀ {ws : List W} {vs : List V}, RepWs K H F ρ ws vs → RepWs K H' F ρ' ws vs
  | [], _, h => h
  | x :: xs, _, h => by
    obtain ⟨v, r, rfl, h1, h2⟩ := h
    exact ⟨v, r, rfl, h1.mono a, RepWs.mono a h2⟩
theorem RepWs.length : ∀ {ws : List W} {vs : List V}, RepWs K H F ρ ws vs → vs.length = ws.length
  | [], _, h => by cases h; rfl
  | x :: xs, _, h => by
    obtain ⟨v, r, rfl, _, h2⟩ := h
    simp [RepWs.length h2]
theorem Slots.set {w σ i x v} (h : Slots K H F ρ w σ) (r : RepW K H F ρ x v) : Slots K H F ρ (w.set i (some x)) (σ.set i (some v)) := by
  refine ⟨by simp [h.1], fun j y e => ?_⟩
  by_cases hj : i = j
  · subst hj
    have hl : i < w.length := by
      by_cases q : i < w.length
      · exact q
      · rw [List.getElem?_eq_none (by simpa using q)] at e; cases e
    rw [List.getElem?_set_self hl] at e
    cases e
    exact ⟨v, List.getElem?_set_self (by rw [← h.1]; exact hl), r⟩
  · rw [List.getElem?_set_ne hj] at e
    obtain ⟨u, q, r⟩ := h.2 j y e
    exact ⟨u, by rw [List.getElem?_set_ne hj]; exact q, r⟩
end
/-! ### runs -/
/-- an exception as it lies -/
def RepX (K : PySem.W.Frag) (mg : Str → Option Value) (H : Hp) (B : Addr → Prop) (x : Ex) (cls : Value) (dd : Option Addr) : Prop :=
  ∃ a, mg x.cls = some (.ref a) ∧ cls = .ref a ∧ match dd with
    | none => x.ks = [] ∧ x.vs = []
    | some d => ¬ B d ∧ ∃ us, us.length = x.ks.length ∧ H d = some (.xd (x.ks.zip us)) ∧ Reps K H B x.vs us
/-- what is fixed while a def runs -/
structure G where
  K : PySem.W.Frag
  mg : Str → Option Value
  F : Addr → Prop
  Wx : WX
variable {α β : Type}
def Run (g : G) (rep : Hp → List (Option Addr) → α → β → Prop) (r : R α) (ρ : List (Option Addr)) (σ : L2.St) (H : Hp) (Q : β → Hp → Prop) : Prop :=
  match r with
  | .ok a S => ∀ ρ' H' v, Ext ρ H ρ' H' → Rl g.K g.F ρ' S H' → rep H' ρ' a v → Q v H'
  | .exc x S => ∀ ρ' H' cls dd, Ext ρ H ρ' H' → Rl g.K g.F ρ' S H' → RepX g.K g.mg H' (bar g.F ρ') x cls dd → g.Wx cls dd σ H'
  | .bad => False
abbrev Lw := List (Option W)
abbrev ME := Lw → List C → R W
abbrev MT := Lw → List C → R Bool
abbrev MA := Lw → List C → R (List W)
def Lft (g : G) (rep : Hp → List (Option Addr) → α → β → Prop) (m : Lw → List C → R α) (σ : L2.St) (H : Hp) (Q : β → Hp → Prop) : Prop :=
  ∃ ρ S w, Rl g.K g.F ρ S H ∧ Slots g.K H g.F ρ w σ ∧ Run g rep (m w S) ρ σ H Q
abbrev rW (g : G) : Hp → List (Option Addr) → W → V → Prop := fun H ρ x v => RepW g.K H g.F ρ x v
abbrev rB : Hp → List (Option Addr) → Bool → Bool → Prop := fun _ _ x v => x = v
abbrev rA (g : G) : Hp → List (Option Addr) → List W → List V → Prop := fun H ρ x v => RepWs g.K H g.F ρ x v
abbrev LE (g : G) (m : ME) : TE := Lft g (rW g) m
abbrev LT (g : G) (m : MT) : TT := Lft g rB m
abbrev LA (g : G) (m : MA) : TA := Lft g (rA g) m
theorem Run.mono {g : G} {rep : Hp → List (Option Addr) → α → β → Prop} {r : R α} {ρ ρ1 : List (Option Addr)} {σ : L2.St} {H H1 : Hp} {Q Q' : β → Hp → Prop} (e : Ext ρ H ρ1 H1) (h : Run g rep r ρ σ H Q) (hq : ∀ v H', Q v H' → Q' v H') : Run g rep r ρ1 σ H1 Q' := by
  cases r with
  | ok a S => exact fun ρ' H' v e' l r => hq _ _ (h ρ' H' v (e.trans e') l r)
  | exc x S => exact fun ρ' H' c d e' l r => h ρ' H' c d (e.trans e') l r
  | bad => exact h
/-- no exception -/
def R.nox (r : R α) : R α := match r with
  | .exc _ _ => .bad
  | r => r
theorem Run.st {g : G} {rep : Hp → List (Option Addr) → α → β → Prop} {r : R α} {ρ : List (Option Addr)} {σ σ' : L2.St} {H : Hp} {Q : β → Hp → Prop} (h : Run g rep r.nox ρ σ H Q) : Run g rep r.nox ρ σ' H Q := by
  cases r with
  | ok a S => exact h
  | exc x S => exact h
  | bad => exact h
theorem nox_bind {γ : Type} (r : R α) (k : α → List C → R γ) : (r.bind k).nox = r.nox.bind fun a S => (k a S).nox := by
  cases r <;> rfl
theorem Run.of_nox {g : G} {rep : Hp → List (Option Addr) → α → β → Prop} {r : R α} {ρ : List (Option Addr)} {σ : L2.St} {H : Hp} {Q : β → Hp → Prop} (h : Run g rep r.nox ρ σ H Q) : Run g rep r ρ σ H Q := by
  cases r with
  | ok a S => exact h
  | exc x S => exact h.elim
  | bad => exact h
/-- one thing, then another -/
theorem Run.bnd {γ δ : Type} {g : G} {ra : Hp → List (Option Addr) → α → β → Prop} {rc : Hp → List (Option Addr) → γ → δ → Prop} {m : R α} {k : α → List C → R γ} {ρ : List (Option Addr)} {σ : L2.St} {H : Hp} {Q : δ → Hp → Prop} {T : β → Hp → Prop}
    (h : Run g rc (m.bind k) ρ σ H Q)
    (hk : ∀ ρ1 S1 a v H1, Ext ρ H ρ1 H1 → Rl g.K g.F ρ1 S1 H1 → ra H1 ρ1 a v → Run g rc (k a S1) ρ1 σ H1 Q → T v H1) : Run g ra m ρ σ H T := by
  cases m with
  | ok a S1 => exact fun ρ1 H1 v e l rv => hk ρ1 S1 a v H1 e l rv (Run.mono e h fun _ _ q => q)
  | exc x S1 => exact h
  | bad => exact h
theorem PEw {X : Cx} {e : Expr} {t t' : TE} (h : PE X e t) (i : ∀ σ H Q, t' σ H Q → t σ H Q) : PE X e t' := ⟨fun pins s σ H Q I q => h.run pins s σ H Q I (i σ H Q q)⟩
theorem PTw {X : Cx} {e : Expr} {t t' : TT} (h : PT X e t) (i : ∀ σ H Q, t' σ H Q → t σ H Q) : PT X e t' := ⟨fun pins s σ H Q I q => h.run pins s σ H Q I (i σ H Q q)⟩
theorem PAw {X : Cx} {e : List Expr} {t t' : TA} (h : PA X e t) (i : ∀ σ H Q, t' σ H Q → t σ H Q) : PA X e t' := ⟨fun pos pins s σ H Q I q => h.run pos pins s σ H Q I (i σ H Q q)⟩
theorem PSw {X : Cx} {e : Stmt} {t t' : TS} (h : PS X e t) (i : ∀ D σ H, t' D σ H → t D σ H) : PS X e t' := ⟨fun p s σ H D I q => h.run p s σ H D I (i D σ H q)⟩
theorem PSsw {X : Cx} {e : List Stmt} {t t' : TS} (h : PSs X e t) (i : ∀ D σ H, t' D σ H → t D σ H) : PSs X e t' := ⟨fun p s σ H D I q => h.run p s σ H D I (i D σ H q)⟩
end Mi

namespace Mi
open PySem PySem.Spec PyProof.Rows L2

/-! ### what a thing reads as, now -/
def vw : W → List C → Option D
  | .d x, _ => some x
  | .l n, S => match S[n]? with
    | some (.lst ds) => some (.lst ds)
    | _ => none
/-- d is read at v (a cell's list, too) -/
def RepR (K : PySem.W.Frag) (H : Hp) (B : Addr → Prop) : D → V → Prop
  | .lst ds, v => ∃ a vs, v = .ref a ∧ H a = some (.lst vs) ∧ Reps K H B ds vs
  | d, v => Rep K H B d v
section
variable {K : PySem.W.Frag} {H : Hp} {B F : Addr → Prop} {ρ : List (Option Addr)} {S : List C}
theorem RepR.of : ∀ {d : D} {v : V}, Rep K H B d v → RepR K H B d v
  | .lst ds, v, h => by
    simp only [Rep] at h
    obtain ⟨a, vs, e1, e2, _, e3⟩ := h
    exact ⟨a, vs, e1, e2, e3⟩
  | .non, _, h => h
  | .bl _, _, h => h
  | .int _, _, h => h
  | .str _, _, h => h
  | .byt _, _, h => h
  | .tup _, _, h => h
  | .frz _, _, h => h
theorem vw_ok {x : W} {v : V} {d : D} (l : Rl K F ρ S H) (r : RepW K H F ρ x v) (e : vw x S = some d) : RepR K H (bar F ρ) d v := by
  cases x with
  | d x => cases e; exact .of r
  | l n =>
    simp only [vw] at e
    cases q : S[n]? with
    | none => rw [q] at e; cases e
    | some c =>
      rw [q] at e
      cases c with
      | gone => cases e
      | lst ds =>
        cases e
        obtain ⟨a, ha⟩ := l.live n _ q (fun z => nomatch z)
        obtain ⟨c, hc, hr⟩ := l.cell n a ha
        rw [q] at hc; cases hc
        obtain ⟨vs, h1, h2⟩ := hr
        exact ⟨a, vs, r.2 a ha, h1, h2⟩
theorem Rep.int_inv {i v} (h : Rep K H B (.int i) v) : v = .int i := by simpa only [Rep] using h
theorem Rep.bl_inv {i v} (h : Rep K H B (.bl i) v) : v = .bl i := by simpa only [Rep] using h
theorem Rep.non_inv {v} (h : Rep K H B .non v) : v = .non := by simpa only [Rep] using h
theorem Rep.str_inv {i v} (h : Rep K H B (.str i) v) : v = .str i ∧ i.length ≤ sizeLine := by simpa only [Rep] using h
theorem Rep.byt_inv {i v} (h : Rep K H B (.byt i) v) : v = .byt i ∧ i.size ≤ 16777216 := by simpa only [Rep] using h
theorem Rep.tup_inv {ds v} (h : Rep K H B (.tup ds) v) : ∃ a vs, v = .ref a ∧ SqTB K H B a vs ∧ Reps K H B ds vs := by simpa only [Rep] using h
theorem Rep.lst_inv {ds v} (h : Rep K H B (.lst ds) v) : ∃ a vs, v = .ref a ∧ H a = some (.lst vs) ∧ ¬ B a ∧ Reps K H B ds vs := by simpa only [Rep] using h
theorem Rep.frz_inv {ds v} (h : Rep K H B (.frz ds) v) : ∃ a vs, v = .ref a ∧ SqLB K H B a vs ∧ Reps K H B ds vs := by simpa only [Rep] using h
theorem Rep.int (i) : Rep K H B (.int i) (.int i) := by simp only [Rep]
theorem Rep.bl (i) : Rep K H B (.bl i) (.bl i) := by simp only [Rep]
theorem Rep.non : Rep K H B .non .non := by simp only [Rep]
theorem Rep.str {i} (h : i.length ≤ sizeLine) : Rep K H B (.str i) (.str i) := by simp only [Rep]; exact ⟨trivial, h⟩
theorem Rep.byt {i} (h : i.size ≤ 16777216) : Rep K H B (.byt i) (.byt i) := by simp only [Rep]; exact ⟨trivial, h⟩
theorem Rep.tup {ds a vs} (h : SqTB K H B a vs) (r : Reps K H B ds vs) : Rep K H B (.tup ds) (.ref a) := by simp only [Rep]; exact ⟨a, vs, rfl, h, r⟩
theorem Rep.lst {ds a vs} (h : H a = some (.lst vs)) (n : ¬ B a) (r : Reps K H B ds vs) : Rep K H B (.lst ds) (.ref a) := by simp only [Rep]; exact ⟨a, vs, rfl, h, n, r⟩
theorem RepR.int_inv {i v} (h : RepR K H B (.int i) v) : v = .int i := Rep.int_inv (K := K) (H := H) (B := B) h
theorem RepR.bl_inv {i v} (h : RepR K H B (.bl i) v) : v = .bl i := Rep.bl_inv (K := K) (H := H) (B := B) h
theorem RepR.non_inv {v} (h : RepR K H B .non v) : v = .non := Rep.non_inv (K := K) (H := H) (B := B) h
theorem RepR.str_inv {i v} (h : RepR K H B (.str i) v) : v = .str i ∧ i.length ≤ sizeLine := Rep.str_inv (K := K) (H := H) (B := B) h
theorem RepR.byt_inv {i v} (h : RepR K H B (.byt i) v) : v = .byt i ∧ i.size ≤ 16777216 := Rep.byt_inv (K := K) (H := H) (B := B) h
theorem RepR.tup_inv {ds v} (h : RepR K H B (.tup ds) v) : ∃ a vs, v = .ref a ∧ SqTB K H B a vs ∧ Reps K H B ds vs := Rep.tup_inv (K := K) (H := H) (B := B) h
theorem RepR.frz_inv {ds v} (h : RepR K H B (.frz ds) v) : ∃ a vs, v = .ref a ∧ SqLB K H B a vs ∧ Reps K H B ds vs := Rep.frz_inv (K := K) (H := H) (B := B) h
theorem RepR.tup_rep {ds v} (h : RepR K H B (.tup ds) v) : Rep K H B (.tup ds) v := h
theorem RepR.lst_inv {ds v} (h : RepR K H B (.lst ds) v) : ∃ a vs, v = .ref a ∧ H a = some (.lst vs) ∧ Reps K H B ds vs := h
/-- a new object is not barred -/
theorem new_nb (l : Rl K F ρ S H) {p : Addr} (hp : H p = none) : ¬ bar F ρ p := fun z => by
  rcases z with z | z
  · exact l.dom p z hp
  · obtain ⟨n, hn⟩ := List.getElem?_of_mem z
    obtain ⟨c, _, hc⟩ := l.cell n p hn
    cases c with
    | gone => exact hc
    | lst ds =>
      obtain ⟨vs, h1, _⟩ := hc
      rw [hp] at h1; cases h1
theorem upd_keep {p : Addr} {o u : HO} {b : Addr} (hp : H p = none) (h : H b = some u) : upd H p o b = some u := by
  rw [upd_ne (ne_of_none h hp)]; exact h
/-- a new object: data -/
theorem ext_new {p : Addr} {o : HO} (hp : H p = none) : Ext ρ H ρ (upd H p o) := ⟨fun b u h _ => upd_keep hp h, Nat.le_refl _, fun _ _ _ h => h, fun _ h => .inl h⟩
theorem CRep.mono {H' : Hp} {B' : Addr → Prop} {a : Addr} {c : C} (e : Ev H B H' B') (h : CRep K H B a c) (k : ∀ o, H a = some o → H' a = some o) : CRep K H' B' a c := by
  cases c with
  | gone => exact h
  | lst ds =>
    obtain ⟨vs, h1, h2⟩ := h
    exact ⟨vs, k _ h1, Reps.mono e _ _ h2⟩
theorem rl_new {p : Addr} {o : HO} (l : Rl K F ρ S H) (hp : H p = none) : Rl K F ρ S (upd H p o) := by
  refine ⟨l.len, fun n a e => ?_, l.live, l.inj, fun a h z => ?_, l.sep⟩
  · obtain ⟨c, h1, h2⟩ := l.cell n a e
    exact ⟨c, h1, h2.mono ((ext_new hp).ev F) fun o q => upd_keep hp q⟩
  · by_cases e : a = p
    · subst e; rw [upd_same] at z; cases z
    · rw [upd_ne e] at z; exact l.dom a h z
/-- a new object: a cell -/
theorem cell_new {p : Addr} {vs : List V} {ds : List D} (l : Rl K F ρ S H) (hp : H p = none) (r : Reps K H (bar F ρ) ds vs) :
    Ext ρ H (ρ ++ [some p]) (upd H p (.lst vs)) ∧ Rl K F (ρ ++ [some p]) (S ++ [.lst ds]) (upd H p (.lst vs)) ∧ RepW K (upd H p (.lst vs)) F (ρ ++ [some p]) (.l S.length) (.ref p) := by
  have ex : Ext ρ H (ρ ++ [some p]) (upd H p (.lst vs)) := by
    refine ⟨fun b u h _ => upd_keep hp h, by simp, fun n a hn h => ?_, fun a h => ?_⟩
    · rw [List.getElem?_append_left hn] at h; exact h
    · rcases List.mem_append.mp h with h | h
      · exact .inl h
      · simp at h; subst h; exact .inr hp
  refine ⟨ex, ⟨by simp [l.len], fun n a e => ?_, fun n c e hc => ?_, fun n m a e1 e2 => ?_, fun a h z => ?_, fun n a e => ?_⟩, ?_⟩
  · by_cases hn : n < ρ.length
    · rw [List.getElem?_append_left hn] at e
      obtain ⟨c, h1, h2⟩ := l.cell n a e
      refine ⟨c, by rw [List.getElem?_append_left (by rw [← l.len]; exact hn)]; exact h1, h2.mono (ex.ev F) fun o q => upd_keep hp q⟩
    · have h1 : n = ρ.length := by
        have := (List.getElem?_eq_some_iff.mp e).1
        simp at this; omega
      subst h1
      simp at e
      subst e
      exact ⟨.lst ds, by rw [l.len]; simp, vs, upd_same, Reps.mono (ex.ev F) _ _ r⟩
  · by_cases hn : n < S.length
    · rw [List.getElem?_append_left hn] at e
      obtain ⟨a, h⟩ := l.live n c e hc
      exact ⟨a, by rw [List.getElem?_append_left (by rw [l.len]; exact hn)]; exact h⟩
    · have h1 : n = S.length := by
        have := (List.getElem?_eq_some_iff.mp e).1
        simp at this; omega
      subst h1
      exact ⟨p, by rw [← l.len]; simp⟩
  · have old : ∀ k : Nat, (ρ ++ [some p])[k]? = some (some a) → (k < ρ.length ∧ ρ[k]? = some (some a)) ∨ (k = ρ.length ∧ a = p) := fun k e => by
      by_cases hk : k < ρ.length
      · rw [List.getElem?_append_left hk] at e; exact .inl ⟨hk, e⟩
      · have h1 : k = ρ.length := by
          have := (List.getElem?_eq_some_iff.mp e).1
          simp at this; omega
        subst h1
        simp at e
        exact .inr ⟨rfl, e.symm⟩
    have nop : ∀ k : Nat, ρ[k]? ≠ some (some p) := fun k e => new_nb l hp (.inr (List.mem_of_getElem? e))
    rcases old n e1 with ⟨_, q1⟩ | ⟨q1, r1⟩
    · rcases old m e2 with ⟨_, q2⟩ | ⟨q2, r2⟩
      · exact l.inj n m a q1 q2
      · subst r2; exact absurd q1 (nop n)
    · rcases old m e2 with ⟨_, q2⟩ | ⟨q2, r2⟩
      · subst r1; exact absurd q2 (nop m)
      · rw [q1, q2]
  · by_cases e : a = p
    · subst e; rw [upd_same] at z; cases z
    · rw [upd_ne e] at z; exact l.dom a h z
  · by_cases hn : n < ρ.length
    · rw [List.getElem?_append_left hn] at e; exact l.sep n a e
    · have h1 : n = ρ.length := by
        have := (List.getElem?_eq_some_iff.mp e).1
        simp at this; omega
      subst h1
      simp at e
      subst e
      exact fun z => l.dom _ z hp
  · refine ⟨by simp [l.len], fun a e => ?_⟩
    rw [← l.len] at e
    simp at e
    rw [e]
/-- a cell is written -/
theorem cell_set {n : Nat} {p : Addr} {vs : List V} {ds : List D} (l : Rl K F ρ S H) (hn : ρ[n]? = some (some p)) (r : Reps K H (bar F ρ) ds vs) :
    Ext ρ H ρ (upd H p (.lst vs)) ∧ Rl K F ρ (S.set n (.lst ds)) (upd H p (.lst vs)) := by
  have ex : Ext ρ H ρ (upd H p (.lst vs)) := by
    refine ⟨fun b u h q => ?_, Nat.le_refl _, fun _ _ _ h => h, fun _ h => .inl h⟩
    rw [upd_ne (fun z => q (by subst z; exact List.mem_of_getElem? hn))]; exact h
  have hl : n < S.length := by
    have := (List.getElem?_eq_some_iff.mp hn).1
    rw [← l.len]; exact this
  refine ⟨ex, ⟨by simp [l.len], fun m a e => ?_, fun m c e hc => ?_, l.inj, fun a h z => ?_, l.sep⟩⟩
  · by_cases hm : m = n
    · subst hm
      rw [hn] at e; cases e
      exact ⟨.lst ds, List.getElem?_set_self hl, vs, upd_same, Reps.mono (ex.ev F) _ _ r⟩
    · obtain ⟨c, h1, h2⟩ := l.cell m a e
      refine ⟨c, by rw [List.getElem?_set_ne (Ne.symm hm)]; exact h1, h2.mono (ex.ev F) fun o q => ?_⟩
      rw [upd_ne (fun z => hm (l.inj m n p (by rw [← z]; exact e) hn))]; exact q
  · by_cases hm : m = n
    · subst hm; exact ⟨p, hn⟩
    · rw [List.getElem?_set_ne (Ne.symm hm)] at e
      exact l.live m c e hc
  · by_cases e : a = p
    · subst e; rw [upd_same] at z; cases z
    · rw [upd_ne e] at z; exact l.dom a h z
end
/-! ### the mirror's words -/
def mVar (i : Nat) : ME := fun w S => match w[i]? with
  | some (some x) => .ok x S
  | _ => .bad
def mC (x : D) : ME := fun _ S => .ok (.d x) S
def mUn (f : W → List C → R W) (a : ME) : ME := fun w S => (a w S).bind f
def mBin (f : W → W → List C → R W) (a b : ME) : ME := fun w S => (a w S).bind fun x S1 => (b w S1).bind (f x)
/-- an answer that is data, nothing is changed -/
def ans (S : List C) : Option D → R W
  | some c => .ok (.d c) S
  | none => .bad
/-- an operation on data -/
def o1 (f : D → Option D) (x : W) (S : List C) : R W := match vw x S with
  | some a => ans S (f a)
  | none => .bad
def o2 (f : D → D → Option D) (x y : W) (S : List C) : R W := match vw x S, vw y S with
  | some a, some b => ans S (f a b)
  | _, _ => .bad
section
variable {g : G} {ρ : List (Option Addr)} {S : List C} {H : Hp} {σ : L2.St} {Q : VK} {w : Lw}
theorem Run.ok_ {α β : Type} {rep : Hp → List (Option Addr) → α → β → Prop} {Q : β → Hp → Prop} {a : α} {v : β} (l : Rl g.K g.F ρ S H) (r : rep H ρ a v) (h : Run g rep (.ok a S) ρ σ H Q) : Q v H := h ρ H v (Ext.refl _ _) l r
/-- a new object as data -/
theorem Run.new_ {d : D} {p : Addr} {o : HO} (l : Rl g.K g.F ρ S H) (hp : H p = none) (r : Rep g.K (upd H p o) (bar g.F ρ) d (.ref p)) (h : Run g (rW g) (.ok (.d d) S) ρ σ H Q) : Q (.ref p) (upd H p o) :=
  h ρ _ _ (ext_new hp) (rl_new l hp) r
theorem le_var {i : Nat} (h : LE g (mVar i) σ H Q) : tVar i σ H Q := by
  obtain ⟨ρ, S, w, l, sl, r⟩ := h
  unfold mVar at r
  cases e : w[i]? with
  | none => rw [e] at r; exact r.elim
  | some x =>
    rw [e] at r
    cases x with
    | none => exact r.elim
    | some x =>
      obtain ⟨v, h1, h2⟩ := sl.2 i x e
      exact ⟨v, h1, Run.ok_ l h2 r⟩
theorem le_c {d : D} {v : V} (hr : ∀ K H B, Rep K H B d v) (h : LE g (mC d) σ H Q) : tC v σ H Q := by
  obtain ⟨ρ, S, w, l, sl, r⟩ := h
  exact Run.ok_ l (hr _ _ _) r
theorem le_un {f : W → List C → R W} {ma : ME} {r : V → Hp → VK → Prop} (hf : ∀ ρ S x v σ H Q, Rl g.K g.F ρ S H → RepW g.K H g.F ρ x v → Run g (rW g) (f x S) ρ σ H Q → r v H Q)
    (h : LE g (mUn f ma) σ H Q) : LE g ma σ H fun x H1 => r x H1 Q := by
  obtain ⟨ρ, S, w, l, sl, h⟩ := h
  exact ⟨ρ, S, w, l, sl, Run.bnd h fun ρ1 S1 x u H1 e1 l1 r1 h1 => hf ρ1 S1 x u σ H1 Q l1 r1 h1⟩
theorem le_bin {f : W → W → List C → R W} {ma mb : ME} {r : R2} (hf : ∀ ρ S x y u v σ H Q, Rl g.K g.F ρ S H → RepW g.K H g.F ρ x u → RepW g.K H g.F ρ y v → Run g (rW g) (f x y S) ρ σ H Q → r u v H Q)
    (h : LE g (mBin f ma mb) σ H Q) : tOp r (LE g ma) (LE g mb) σ H Q := by
  obtain ⟨ρ, S, w, l, sl, h⟩ := h
  refine ⟨ρ, S, w, l, sl, Run.bnd h fun ρ1 S1 x u H1 e1 l1 r1 h1 => ?_⟩
  refine ⟨ρ1, S1, w, l1, sl.mono e1, Run.bnd h1 fun ρ2 S2 y v H2 e2 l2 r2 h2 => ?_⟩
  exact hf ρ2 S2 x y u v σ H2 Q l2 (r1.mono e2) r2 h2
/-- operations on data -/
theorem le_o1 {f : D → Option D} {ma : ME} {r : V → Hp → VK → Prop} (hf : ∀ ρ S a c v H (Q : VK), Rl g.K g.F ρ S H → RepR g.K H (bar g.F ρ) a v → f a = some c → (∀ ρ' H' u, Ext ρ H ρ' H' → Rl g.K g.F ρ' S H' → Rep g.K H' (bar g.F ρ') c u → Q u H') → r v H Q)
    (h : LE g (mUn (o1 f) ma) σ H Q) : LE g ma σ H fun x H1 => r x H1 Q := le_un (fun ρ S x v σ H Q l rx h => by
  unfold o1 at h
  cases e1 : vw x S with
  | none => rw [e1] at h; exact h.elim
  | some a =>
    simp only [e1] at h
    cases e3 : f a with
    | none => rw [e3] at h; exact h.elim
    | some c =>
      rw [e3] at h
      exact hf ρ S a c v H Q l (vw_ok l rx e1) e3 h) h
theorem run_o2 {f : D → D → Option D} {r : R2} (hf : ∀ ρ S a b c u v H (Q : VK), Rl g.K g.F ρ S H → RepR g.K H (bar g.F ρ) a u → RepR g.K H (bar g.F ρ) b v → f a b = some c → (∀ ρ' H' x, Ext ρ H ρ' H' → Rl g.K g.F ρ' S H' → Rep g.K H' (bar g.F ρ') c x → Q x H') → r u v H Q)
    (ρ : List (Option Addr)) (S : List C) (x y : W) (u v : V) (σ : L2.St) (H : Hp) (Q : VK) (l : Rl g.K g.F ρ S H) (rx : RepW g.K H g.F ρ x u) (ry : RepW g.K H g.F ρ y v) (h : Run g (rW g) (o2 f x y S) ρ σ H Q) : r u v H Q := by
  unfold o2 at h
  cases e1 : vw x S with
  | none => rw [e1] at h; exact h.elim
  | some a =>
    cases e2 : vw y S with
    | none => rw [e1, e2] at h; exact h.elim
    | some b =>
      simp only [e1, e2] at h
      cases e3 : f a b with
      | none => rw [e3] at h; exact h.elim
      | some c =>
        rw [e3] at h
        exact hf ρ S a b c u v H Q l (vw_ok l rx e1) (vw_ok l ry e2) e3 h
theorem le_o2 {f : D → D → Option D} {ma mb : ME} {r : R2} (hf : ∀ ρ S a b c u v H (Q : VK), Rl g.K g.F ρ S H → RepR g.K H (bar g.F ρ) a u → RepR g.K H (bar g.F ρ) b v → f a b = some c → (∀ ρ' H' x, Ext ρ H ρ' H' → Rl g.K g.F ρ' S H' → Rep g.K H' (bar g.F ρ') c x → Q x H') → r u v H Q)
    (h : LE g (mBin (o2 f) ma mb) σ H Q) : tOp r (LE g ma) (LE g mb) σ H Q := le_bin (run_o2 hf) h
end
end Mi

namespace Mi
open PySem PySem.Spec PyProof.Rows L2

/-! ### arithmetic -/
def addD : D → D → Option D
  | .int i, .int j => some (.int (i + j))
  | .str x, .str y => if x.length + y.length ≤ sizeLine then some (.str (x ++ y)) else none
  | .lst x, .lst y => if x.length + y.length ≤ sizeLine then some (.lst (x ++ y)) else none
  | .tup x, .tup y => if x.length + y.length ≤ sizeLine then some (.tup (x ++ y)) else none
  | _, _ => none
def subD : D → D → Option D
  | .int i, .int j => some (.int (i - j))
  | _, _ => none
def mulD : D → D → Option D
  | .int i, .int j => if (-(2 ^ 64) < i ∧ i < 2 ^ 64) ∨ (-(2 ^ 64) < j ∧ j < 2 ^ 64) then some (.int (i * j)) else none
  | _, _ => none
def fdivD : D → D → Option D
  | .int i, .int j => if 0 < j ∧ j < 1073741824 then some (.int (i / j)) else none
  | _, _ => none
def modD : D → D → Option D
  | .int i, .int j => if 0 < j then some (.int (i % j)) else none
  | _, _ => none
def powD : D → D → Option D
  | .int i, .int j => if 0 ≤ j ∧ j ≤ 1000000 ∧ i.natAbs < 2 ^ 64 then some (.int (i ^ j.toNat)) else none
  | _, _ => none
def negD : D → Option D
  | .int i => some (.int (-i))
  | _ => none
theorem str_app_len (x y : Str) : (x ++ y).length = x.length + y.length := by
  show (x.cps ++ y.cps).size = _
  simp [Str.length]
section
variable {X : Cx} {g : G} {a b : Expr} {ma mb : ME} {pos : Pos}
abbrev DE (X : Cx) (g : G) (e : Expr) (m : ME) : Prop := PE X e (LE g m)
abbrev DT (X : Cx) (g : G) (e : Expr) (m : MT) : Prop := PT X e (LT g m)
abbrev DA (X : Cx) (g : G) (e : List Expr) (m : MA) : Prop := PA X e (LA g m)
theorem new_tup {ρ : List (Option Addr)} {S : List C} {H : Hp} {ds : List D} {vs : List V} {Q : VK} (l : Rl g.K g.F ρ S H) (r : Reps g.K H (bar g.F ρ) ds vs) (q : ∀ ρ' H' x, Ext ρ H ρ' H' → Rl g.K g.F ρ' S H' → Rep g.K H' (bar g.F ρ') (.tup ds) x → Q x H') :
    ∀ p, H p = none → Q (.ref p) (upd H p (.tup vs)) := fun p hp =>
  q ρ _ _ (ext_new hp) (rl_new l hp) (.tup (.inl ⟨.inl upd_same, new_nb l hp⟩) (Reps.mono ((ext_new hp).ev g.F) _ _ r))
theorem new_lst {ρ : List (Option Addr)} {S : List C} {H : Hp} {ds : List D} {vs : List V} {Q : VK} (l : Rl g.K g.F ρ S H) (r : Reps g.K H (bar g.F ρ) ds vs) (q : ∀ ρ' H' x, Ext ρ H ρ' H' → Rl g.K g.F ρ' S H' → Rep g.K H' (bar g.F ρ') (.lst ds) x → Q x H') :
    ∀ p, H p = none → Q (.ref p) (upd H p (.lst vs)) := fun p hp =>
  q ρ _ _ (ext_new hp) (rl_new l hp) (.lst upd_same (new_nb l hp) (Reps.mono ((ext_new hp).ev g.F) _ _ r))
theorem same_q {ρ : List (Option Addr)} {S : List C} {H : Hp} {c : D} {v : V} {Q : VK} (l : Rl g.K g.F ρ S H) (r : Rep g.K H (bar g.F ρ) c v) (q : ∀ ρ' H' x, Ext ρ H ρ' H' → Rl g.K g.F ρ' S H' → Rep g.K H' (bar g.F ρ') c x → Q x H') : Q v H := q ρ H v (Ext.refl _ _) l r
theorem d_add (ha : DE X g a ma) (hb : DE X g b mb) (hK : g.K = X.K := by rfl) : DE X g (.BinOp a .Add b pos) (mBin (o2 addD) ma mb) := by
  refine PEw (pe_op (op_add.or (op_add_str.or (op_cat.or op_catA))) ha hb) fun σ H Q => le_o2 fun ρ S a b c u v H Q l ra rb h q => ?_
  unfold addD at h
  split at h
  · cases h
    refine .inl ⟨_, _, RepR.int_inv ra, RepR.int_inv rb, same_q l (.int _) q⟩
  · split at h
    · cases h
      rename_i x y hz
      refine .inr (.inl ⟨_, _, (RepR.str_inv ra).1, (RepR.str_inv rb).1, hz, same_q l (.str (by rw [str_app_len]; exact hz)) q⟩)
    · cases h
  · split at h
    · cases h
      rename_i x y hz
      obtain ⟨p, vs, rfl, h1, r1⟩ := RepR.lst_inv ra
      obtain ⟨p2, us, rfl, h2, r2⟩ := RepR.lst_inv rb
      exact .inr (.inr (.inl ⟨p, p2, vs, us, rfl, rfl, h1, h2, by rw [r1.length, r2.length]; exact hz, new_lst l (Reps.append r1 r2) q⟩))
    · cases h
  · split at h
    · cases h
      rename_i x y hz
      obtain ⟨p, vs, rfl, h1, r1⟩ := RepR.tup_inv ra
      obtain ⟨p2, us, rfl, h2, r2⟩ := RepR.tup_inv rb
      have ea : vs = [] → x = [] := fun e => by have := r1.length; subst e; simpa using this.symm
      have eb : us = [] → y = [] := fun e => by have := r2.length; subst e; simpa using this.symm
      refine .inr (.inr (.inr ⟨p, p2, vs, us, rfl, rfl, hK ▸ h1.of, hK ▸ h2.of, by rw [r1.length, r2.length]; exact hz, fun e => ?_, fun _ e => ?_, fun _ _ => new_tup l (Reps.append r1 r2) q⟩))
      · rw [ea e] at q; exact same_q l (RepR.tup_rep rb) q
      · rw [eb e, List.append_nil] at q; exact same_q l (RepR.tup_rep ra) q
    · cases h
  · cases h
theorem d_sub (ha : DE X g a ma) (hb : DE X g b mb) : DE X g (.BinOp a .Sub b pos) (mBin (o2 subD) ma mb) := by
  refine PEw (pe_op op_sub ha hb) fun σ H Q => le_o2 fun ρ S a b c u v H Q l ra rb h q => ?_
  unfold subD at h
  split at h
  · cases h
    exact ⟨_, _, RepR.int_inv ra, RepR.int_inv rb, same_q l (.int _) q⟩
  · cases h
theorem d_mul (ha : DE X g a ma) (hb : DE X g b mb) : DE X g (.BinOp a .Mult b pos) (mBin (o2 mulD) ma mb) := by
  refine PEw (pe_op op_mul ha hb) fun σ H Q => le_o2 fun ρ S a b c u v H Q l ra rb h q => ?_
  unfold mulD at h
  split at h
  · split at h
    · cases h
      rename_i hz
      exact ⟨_, _, RepR.int_inv ra, RepR.int_inv rb, hz, same_q l (.int _) q⟩
    · cases h
  · cases h
theorem d_fdiv (ha : DE X g a ma) (hb : DE X g b mb) : DE X g (.BinOp a .FloorDiv b pos) (mBin (o2 fdivD) ma mb) := by
  refine PEw (pe_op op_fdiv ha hb) fun σ H Q => le_o2 fun ρ S a b c u v H Q l ra rb h q => ?_
  unfold fdivD at h
  split at h
  · split at h
    · cases h
      rename_i hz
      exact ⟨_, _, RepR.int_inv ra, RepR.int_inv rb, hz, same_q l (.int _) q⟩
    · cases h
  · cases h
theorem d_mod (ha : DE X g a ma) (hb : DE X g b mb) : DE X g (.BinOp a .Mod b pos) (mBin (o2 modD) ma mb) := by
  refine PEw (pe_op op_mod ha hb) fun σ H Q => le_o2 fun ρ S a b c u v H Q l ra rb h q => ?_
  unfold modD at h
  split at h
  · split at h
    · cases h
      rename_i hz
      exact ⟨_, _, RepR.int_inv ra, RepR.int_inv rb, hz, same_q l (.int _) q⟩
    · cases h
  · cases h
theorem d_pow (ha : DE X g a ma) (hb : DE X g b mb) : DE X g (.BinOp a .Pow b pos) (mBin (o2 powD) ma mb) := by
  refine PEw (pe_op op_pow ha hb) fun σ H Q => le_o2 fun ρ S a b c u v H Q l ra rb h q => ?_
  unfold powD at h
  split at h
  · split at h
    · cases h
      rename_i hz
      exact ⟨_, _, RepR.int_inv ra, RepR.int_inv rb, hz, same_q l (.int _) q⟩
    · cases h
  · cases h
theorem d_neg (ha : DE X g a ma) : DE X g (.UnaryOp .USub a pos) (mUn (o1 negD) ma) := by
  refine PEw (pe_un un_neg ha) fun σ H Q => le_o1 fun ρ S a c v H Q l ra h q => ?_
  unfold negD at h
  split at h
  · cases h
    exact ⟨_, RepR.int_inv ra, same_q l (.int _) q⟩
  · cases h
/-! ### names, constants -/
theorem d_var (i : Nat) {x : Str} (hN : X.N[i]? = some x := by rfl) (hv : Vis X.env.scope x := by first | exact Or.inl rfl | exact Or.inr (Or.inl rfl) | exact Or.inr (Or.inr rfl)) (hd : (x == ("__debug__" : Str)) = false := by decide)
    (hcd : (x == ("__classdict__" : Str)) = false := by decide) : DE X g (.Name x pos) (mVar i) := PEw (pv i hN hv hd hcd) fun _ _ _ => le_var
theorem d_int {i : Int} {j : Nat} : DE X g (.Constant (.int i) j pos) (mC (.int i)) := PEw pe_int fun _ _ _ => le_c fun _ _ _ => .int i
theorem d_bl {b : Bool} {j : Nat} : DE X g (.Constant (.bool b) j pos) (mC (.bl b)) := PEw pe_bl fun _ _ _ => le_c fun _ _ _ => .bl b
theorem d_non {j : Nat} : DE X g (.Constant .none j pos) (mC .non) := PEw pe_non fun _ _ _ => le_c fun _ _ _ => .non
theorem d_str {x : Str} {j : Nat} (h : x.length ≤ sizeLine := by decide +kernel) : DE X g (.Constant (.str x) j pos) (mC (.str x)) := PEw pe_str fun _ _ _ => le_c fun _ _ _ => .str h
end
end Mi

namespace Mi
open PySem PySem.Spec PyProof.Rows L2

/-! ### == of data -/
mutual
def eqD : D → D → Bool
  | .non, .non => true
  | .bl a, .bl b => a == b
  | .bl a, .int j => (if a then 1 else 0) == j
  | .int i, .bl b => i == (if b then 1 else 0)
  | .int i, .int j => i == j
  | .str x, .str y => x == y
  | .tup xs, .tup ys => eqDs xs ys
  | .lst xs, .lst ys => eqDs xs ys
  | .lst xs, .frz ys => eqDs xs ys
  | .frz xs, .lst ys => eqDs xs ys
  | .frz xs, .frz ys => eqDs xs ys
  | _, _ => false
def eqDs : List D → List D → Bool
  | [], [] => true
  | x :: xs, y :: ys => eqD x y && eqDs xs ys
  | _, _ => false
end
/-- data that == is shown for: no bytes, nested at most n deep -/
def eqOk : Nat → D → Bool
  | _, .byt _ => false
  | 0, .tup _ => false
  | 0, .lst _ => false
  | 0, .frz _ => false
  | n + 1, .tup xs => xs.all (eqOk n)
  | n + 1, .lst xs => xs.all (eqOk n)
  | n + 1, .frz xs => xs.all (eqOk n)
  | _, _ => true
mutual
/-- how data are read -/
def Rp (K : PySem.W.Frag) (H : Hp) : D → V → Prop
  | .non, v => v = .non
  | .bl b, v => v = .bl b
  | .int i, v => v = .int i
  | .str x, v => v = .str x
  | .byt b, v => v = .byt b
  | .tup ds, v => ∃ a vs, v = .ref a ∧ SqT K H a vs ∧ Rps K H ds vs
  | .lst ds, v => ∃ a vs, v = .ref a ∧ SqL K H a vs ∧ Rps K H ds vs
  | .frz ds, v => ∃ a vs, v = .ref a ∧ SqL K H a vs ∧ Rps K H ds vs
def Rps (K : PySem.W.Frag) (H : Hp) : List D → List V → Prop
  | [], vs => vs = []
  | d :: ds, vs => ∃ v r, vs = v :: r ∧ Rp K H d v ∧ Rps K H ds r
end
section
variable {K : PySem.W.Frag} {H : Hp} {B : Addr → Prop}
mutual
theorem Rep.rp : ∀ (d : D) (v : V), Rep K H B d v → Rp K H d v
  | .non, _, h => by simpa only [Rep, Rp] using h
  | .bl _, _, h => by simpa only [Rep, Rp] using h
  | .int _, _, h => by simpa only [Rep, Rp] using h
  | .str _, _, h => by simp only [Rep, Rp] at h ⊢; exact h.1
  | .byt _, _, h => by simp only [Rep, Rp] at h ⊢; exact h.1
  | .tup ds, v, h => by
    simp only [Rep, Rp] at h ⊢
    obtain ⟨a, vs, e1, e2, e3⟩ := h
    exact ⟨a, vs, e1, e2.of, Reps.rp ds vs e3⟩
  | .lst ds, v, h => by
    simp only [Rep, Rp] at h ⊢
    obtain ⟨a, vs, e1, e2, _, e3⟩ := h
    exact ⟨a, vs, e1, .of e2, Reps.rp ds vs e3⟩
  | .frz ds, v, h => by
    simp only [Rep, Rp] at h ⊢
    obtain ⟨a, vs, e1, e2, e3⟩ := h
    exact ⟨a, vs, e1, e2.of, Reps.rp ds vs e3⟩
theorem Reps.rp : ∀ (ds : List D) (vs : List V), Reps K H B ds vs → Rps K H ds vs
  | [], _, h => by simpa only [Reps, Rps] using h
  | d :: ds, vs, h => by
    simp only [Reps, Rps] at h ⊢
    obtain ⟨v, r, e1, e2, e3⟩ := h
    exact ⟨v, r, e1, Rep.rp d v e2, Reps.rp ds r e3⟩
end
theorem RepR.rp : ∀ {d : D} {v : V}, RepR K H B d v → Rp K H d v
  | .lst ds, v, h => by
    obtain ⟨a, vs, e1, e2, e3⟩ := h
    simp only [Rp]
    exact ⟨a, vs, e1, .of e2, Reps.rp ds vs e3⟩
  | .non, _, h => Rep.rp (B := B) _ _ h
  | .bl _, _, h => Rep.rp (B := B) _ _ h
  | .int _, _, h => Rep.rp (B := B) _ _ h
  | .str _, _, h => Rep.rp (B := B) _ _ h
  | .byt _, _, h => Rep.rp (B := B) _ _ h
  | .tup _, _, h => Rep.rp (B := B) _ _ h
  | .frz _, _, h => Rep.rp (B := B) _ _ h
theorem Rps.length : ∀ {ds : List D} {vs : List V}, Rps K H ds vs → vs.length = ds.length
  | [], vs, h => by simp only [Rps] at h; subst h; rfl
  | d :: ds, vs, h => by
    simp only [Rps] at h
    obtain ⟨v, r, rfl, _, h⟩ := h
    simp [Rps.length h]
theorem Rps.get : ∀ {ds : List D} {vs : List V} {i : Nat} {d : D}, Rps K H ds vs → ds[i]? = some d → ∃ v, vs[i]? = some v ∧ Rp K H d v
  | [], _, _, _, _, e => by simp at e
  | _ :: _, _, 0, _, h, e => by
    simp only [Rps] at h
    obtain ⟨v, r, rfl, h1, _⟩ := h
    simp at e; subst e
    exact ⟨v, rfl, h1⟩
  | _ :: ds, _, i + 1, d, h, e => by
    simp only [Rps] at h
    obtain ⟨v, r, rfl, _, h1⟩ := h
    obtain ⟨u, e1, e2⟩ := Rps.get (i := i) h1 (by simpa using e)
    exact ⟨u, by simpa using e1, e2⟩
end
theorem eqDs_range : ∀ (ds es : List D), ds.length = es.length → (List.range ds.length).all (fun j => eqD (ds.getD j .non) (es.getD j .non)) = eqDs ds es
  | [], [], _ => by simp [eqDs]
  | [], _ :: _, h => by simp at h
  | _ :: _, [], h => by simp at h
  | d :: ds, e :: es, h => by
    have ih := eqDs_range ds es (by simpa using h)
    rw [List.length_cons, List.range_succ_eq_map, List.all_cons, List.all_map]
    simp only [eqDs]
    rw [← ih]
    rfl
theorem eqDs_len : ∀ (ds es : List D), ds.length ≠ es.length → eqDs ds es = false
  | [], [], h => by simp at h
  | [], _ :: _, h => by simp [eqDs]
  | _ :: _, [], h => by simp [eqDs]
  | d :: ds, e :: es, h => by
    simp only [eqDs, eqDs_len ds es (by simpa using h), Bool.and_false]
section
variable {X : Cx} {pins : List (Addr × Obj)} {σ : L2.St} {H : Hp} {s : Shared}
structure Cmp (A : Around) (s : Shared) (u v : Value) (b : Bool) : Prop where
  rc : SeqAt.RcAt A s u v b
  ne : SeqAt.RcNeAt A s u v (!b)
  eq : SeqAt.EqAt A s u v b
theorem isList_of (I : Inv X pins σ H s) {a : Addr} {vs : List V} (h : SqL X.K H a vs) : ∃ its : List Value, Vals vs its ∧ s.heap.IsList a its.toArray :=
  let ⟨its, r, p, _⟩ := I.list h
  ⟨its, r, p.isList⟩
theorem isTuple_of (I : Inv X pins σ H s) {a : Addr} {vs : List V} (h : SqT X.K H a vs) : ∃ its : List Value, Vals vs its ∧ s.heap.IsTuple a its.toArray :=
  let ⟨its, r, p, _⟩ := I.tuple h
  ⟨its, r, p⟩
theorem c_none_none {A : Around}  : Cmp A s .none .none true := ⟨SeqAt.RcAt.none_none , SeqAt.RcNeAt.none_none , SeqAt.EqAt.same _⟩
theorem c_none_bool {A : Around} (b : Bool) : Cmp A s .none (.bool b) false := ⟨SeqAt.RcAt.none_bool b, SeqAt.RcNeAt.none_bool b, SeqAt.EqAt.none_bool b⟩
theorem c_none_int {A : Around} (b : Int) (t2 : Tok) : Cmp A s .none (.int b t2) false := ⟨SeqAt.RcAt.none_int b t2, SeqAt.RcNeAt.none_int b t2, SeqAt.EqAt.none_int b t2⟩
theorem c_none_str {A : Around} (b : Str) (t2 : Tok) : Cmp A s .none (.str b t2) false := ⟨SeqAt.RcAt.none_str b t2, SeqAt.RcNeAt.none_str b t2, SeqAt.EqAt.none_str b t2⟩
theorem c_bool_none {A : Around} (a : Bool) : Cmp A s (.bool a) .none false := ⟨SeqAt.RcAt.bool_none a, SeqAt.RcNeAt.bool_none a, SeqAt.EqAt.bool_none a⟩
theorem c_bool_bool {A : Around} (a : Bool) (b : Bool) : Cmp A s (.bool a) (.bool b) (a == b) := ⟨SeqAt.RcAt.bool_bool a b, SeqAt.RcNeAt.bool_bool a b, SeqAt.EqAt.bool_bool a b⟩
theorem c_bool_int {A : Around} (a : Bool) (b : Int) (t2 : Tok) : Cmp A s (.bool a) (.int b t2) ((if a then 1 else 0) == b) := ⟨SeqAt.RcAt.bool_int a b t2, SeqAt.RcNeAt.bool_int a b t2, SeqAt.EqAt.bool_int a b t2⟩
theorem c_bool_str {A : Around} (a : Bool) (b : Str) (t2 : Tok) : Cmp A s (.bool a) (.str b t2) false := ⟨SeqAt.RcAt.bool_str a b t2, SeqAt.RcNeAt.bool_str a b t2, SeqAt.EqAt.bool_str a b t2⟩
theorem c_int_none {A : Around} (a : Int) (t : Tok) : Cmp A s (.int a t) .none false := ⟨SeqAt.RcAt.int_none a t, SeqAt.RcNeAt.int_none a t, SeqAt.EqAt.int_none a t⟩
theorem c_int_bool {A : Around} (a : Int) (t : Tok) (b : Bool) : Cmp A s (.int a t) (.bool b) (a == (if b then 1 else 0)) := ⟨SeqAt.RcAt.int_bool a t b, SeqAt.RcNeAt.int_bool a t b, SeqAt.EqAt.int_bool a t b⟩
theorem c_int_int {A : Around} (a : Int) (t : Tok) (b : Int) (t2 : Tok) : Cmp A s (.int a t) (.int b t2) (a == b) := ⟨SeqAt.RcAt.int_int a t b t2, SeqAt.RcNeAt.int_int a t b t2, SeqAt.EqAt.int_int a t b t2⟩
theorem c_int_str {A : Around} (a : Int) (t : Tok) (b : Str) (t2 : Tok) : Cmp A s (.int a t) (.str b t2) false := ⟨SeqAt.RcAt.int_str a t b t2, SeqAt.RcNeAt.int_str a t b t2, SeqAt.EqAt.int_str a t b t2⟩
theorem c_str_none {A : Around} (a : Str) (t : Tok) : Cmp A s (.str a t) .none false := ⟨SeqAt.RcAt.str_none a t, SeqAt.RcNeAt.str_none a t, SeqAt.EqAt.str_none a t⟩
theorem c_str_bool {A : Around} (a : Str) (t : Tok) (b : Bool) : Cmp A s (.str a t) (.bool b) false := ⟨SeqAt.RcAt.str_bool a t b, SeqAt.RcNeAt.str_bool a t b, SeqAt.EqAt.str_bool a t b⟩
theorem c_str_int {A : Around} (a : Str) (t : Tok) (b : Int) (t2 : Tok) : Cmp A s (.str a t) (.int b t2) false := ⟨SeqAt.RcAt.str_int a t b t2, SeqAt.RcNeAt.str_int a t b t2, SeqAt.EqAt.str_int a t b t2⟩
theorem c_str_str {A : Around} (a : Str) (t : Tok) (b : Str) (t2 : Tok) : Cmp A s (.str a t) (.str b t2) (a == b) := ⟨SeqAt.RcAt.str_str a t b t2, SeqAt.RcNeAt.str_str a t b t2, SeqAt.EqAt.str_str a t b t2⟩
theorem sc_cmp {A : Around} {a b : D} {x y : V} {u v : Value} (ra : Rp X.K H a x) (rb : Rp X.K H b y) (rx : L2.RelV x u) (ry : L2.RelV y v)
    (ha : eqOk 0 a = true) (hb : eqOk 0 b = true) : Cmp A s u v (eqD a b) ∧ (x = y → eqD a b = true) := by
  cases a <;> simp only [eqOk] at ha <;> first | (cases ha; done) | skip
  all_goals (cases b <;> simp only [eqOk] at hb <;> first | (cases hb; done) | skip)
  all_goals (simp only [Rp] at ra rb; subst ra rb; simp only [L2.RelV] at rx ry)
  all_goals (try obtain ⟨t, rx⟩ := rx)
  all_goals (try obtain ⟨t', ry⟩ := ry)
  all_goals (try subst rx)
  all_goals (try subst ry)
  all_goals simp only [eqD]
  all_goals refine ⟨?_, fun e => ?_⟩
  · exact c_none_none
  · trivial
  · exact c_none_bool _
  · cases e
  · exact c_none_int _ _
  · cases e
  · exact c_none_str _ _
  · cases e
  · exact c_bool_none _
  · cases e
  · exact c_bool_bool _ _
  · cases e; simp
  · exact c_bool_int _ _ _
  · cases e
  · exact c_bool_str _ _ _
  · cases e
  · exact c_int_none _ _
  · cases e
  · exact c_int_bool _ _ _
  · cases e
  · exact c_int_int _ _ _ _
  · cases e; simp
  · exact c_int_str _ _ _ _
  · cases e
  · exact c_str_none _ _
  · cases e
  · exact c_str_bool _ _ _
  · cases e
  · exact c_str_int _ _ _ _
  · cases e
  · exact c_str_str _ _ _ _
  · cases e; simp
theorem c_list_none {A : Around} {l : Addr} {items : Array Value}  (hl : s.heap.IsList l items) (hu : A.units < cLine) : Cmp A s (.ref l) .none false := ⟨SeqAt.RcAt.list_none  hl hu, SeqAt.RcNeAt.list_none  hl hu, SeqAt.EqAt.list_none  hl hu⟩
theorem c_none_list {A : Around} {l : Addr} {items : Array Value}  (hl : s.heap.IsList l items) (hu : A.units < cLine) : Cmp A s .none (.ref l) false := ⟨SeqAt.RcAt.none_list  hl hu, SeqAt.RcNeAt.none_list  hl hu, SeqAt.EqAt.none_list  hl hu⟩
theorem c_list_bool {A : Around} {l : Addr} {items : Array Value} (b : Bool) (hl : s.heap.IsList l items) (hu : A.units < cLine) : Cmp A s (.ref l) (.bool b) false := ⟨SeqAt.RcAt.list_bool b hl hu, SeqAt.RcNeAt.list_bool b hl hu, SeqAt.EqAt.list_bool b hl hu⟩
theorem c_bool_list {A : Around} {l : Addr} {items : Array Value} (b : Bool) (hl : s.heap.IsList l items) (hu : A.units < cLine) : Cmp A s (.bool b) (.ref l) false := ⟨SeqAt.RcAt.bool_list b hl hu, SeqAt.RcNeAt.bool_list b hl hu, SeqAt.EqAt.bool_list b hl hu⟩
theorem c_list_int {A : Around} {l : Addr} {items : Array Value} (b : Int) (t2 : Tok) (hl : s.heap.IsList l items) (hu : A.units < cLine) : Cmp A s (.ref l) (.int b t2) false := ⟨SeqAt.RcAt.list_int b t2 hl hu, SeqAt.RcNeAt.list_int b t2 hl hu, SeqAt.EqAt.list_int b t2 hl hu⟩
theorem c_int_list {A : Around} {l : Addr} {items : Array Value} (b : Int) (t2 : Tok) (hl : s.heap.IsList l items) (hu : A.units < cLine) : Cmp A s (.int b t2) (.ref l) false := ⟨SeqAt.RcAt.int_list b t2 hl hu, SeqAt.RcNeAt.int_list b t2 hl hu, SeqAt.EqAt.int_list b t2 hl hu⟩
theorem c_list_str {A : Around} {l : Addr} {items : Array Value} (b : Str) (t2 : Tok) (hl : s.heap.IsList l items) (hu : A.units < cLine) : Cmp A s (.ref l) (.str b t2) false := ⟨SeqAt.RcAt.list_str b t2 hl hu, SeqAt.RcNeAt.list_str b t2 hl hu, SeqAt.EqAt.list_str b t2 hl hu⟩
theorem c_str_list {A : Around} {l : Addr} {items : Array Value} (b : Str) (t2 : Tok) (hl : s.heap.IsList l items) (hu : A.units < cLine) : Cmp A s (.str b t2) (.ref l) false := ⟨SeqAt.RcAt.str_list b t2 hl hu, SeqAt.RcNeAt.str_list b t2 hl hu, SeqAt.EqAt.str_list b t2 hl hu⟩
theorem c_tuple_none {A : Around} {l : Addr} {items : Array Value}  (hl : s.heap.IsTuple l items) (hu : A.units < cLine) : Cmp A s (.ref l) .none false := ⟨SeqAt.RcAt.tuple_none  hl hu, SeqAt.RcNeAt.tuple_none  hl hu, SeqAt.EqAt.tuple_none  hl hu⟩
theorem c_none_tuple {A : Around} {l : Addr} {items : Array Value}  (hl : s.heap.IsTuple l items) (hu : A.units < cLine) : Cmp A s .none (.ref l) false := ⟨SeqAt.RcAt.none_tuple  hl hu, SeqAt.RcNeAt.none_tuple  hl hu, SeqAt.EqAt.none_tuple  hl hu⟩
theorem c_tuple_bool {A : Around} {l : Addr} {items : Array Value} (b : Bool) (hl : s.heap.IsTuple l items) (hu : A.units < cLine) : Cmp A s (.ref l) (.bool b) false := ⟨SeqAt.RcAt.tuple_bool b hl hu, SeqAt.RcNeAt.tuple_bool b hl hu, SeqAt.EqAt.tuple_bool b hl hu⟩
theorem c_bool_tuple {A : Around} {l : Addr} {items : Array Value} (b : Bool) (hl : s.heap.IsTuple l items) (hu : A.units < cLine) : Cmp A s (.bool b) (.ref l) false := ⟨SeqAt.RcAt.bool_tuple b hl hu, SeqAt.RcNeAt.bool_tuple b hl hu, SeqAt.EqAt.bool_tuple b hl hu⟩
theorem c_tuple_int {A : Around} {l : Addr} {items : Array Value} (b : Int) (t2 : Tok) (hl : s.heap.IsTuple l items) (hu : A.units < cLine) : Cmp A s (.ref l) (.int b t2) false := ⟨SeqAt.RcAt.tuple_int b t2 hl hu, SeqAt.RcNeAt.tuple_int b t2 hl hu, SeqAt.EqAt.tuple_int b t2 hl hu⟩
theorem c_int_tuple {A : Around} {l : Addr} {items : Array Value} (b : Int) (t2 : Tok) (hl : s.heap.IsTuple l items) (hu : A.units < cLine) : Cmp A s (.int b t2) (.ref l) false := ⟨SeqAt.RcAt.int_tuple b t2 hl hu, SeqAt.RcNeAt.int_tuple b t2 hl hu, SeqAt.EqAt.int_tuple b t2 hl hu⟩
theorem c_tuple_str {A : Around} {l : Addr} {items : Array Value} (b : Str) (t2 : Tok) (hl : s.heap.IsTuple l items) (hu : A.units < cLine) : Cmp A s (.ref l) (.str b t2) false := ⟨SeqAt.RcAt.tuple_str b t2 hl hu, SeqAt.RcNeAt.tuple_str b t2 hl hu, SeqAt.EqAt.tuple_str b t2 hl hu⟩
theorem c_str_tuple {A : Around} {l : Addr} {items : Array Value} (b : Str) (t2 : Tok) (hl : s.heap.IsTuple l items) (hu : A.units < cLine) : Cmp A s (.str b t2) (.ref l) false := ⟨SeqAt.RcAt.str_tuple b t2 hl hu, SeqAt.RcNeAt.str_tuple b t2 hl hu, SeqAt.EqAt.str_tuple b t2 hl hu⟩
theorem ls_cmp {A : Around} {b : D} {y : V} {v : Value} {l : Addr} {items : Array Value} (hu : A.units < cLine) (hl : s.heap.IsList l items) (rb : Rp X.K H b y) (ry : L2.RelV y v) (hb : eqOk 0 b = true) :
    Cmp A s (.ref l) v false ∧ Cmp A s v (.ref l) false := by
  cases b <;> simp only [eqOk] at hb <;> first | (cases hb; done) | skip
  all_goals (simp only [Rp] at rb; subst rb; simp only [L2.RelV] at ry)
  all_goals (try obtain ⟨t', ry⟩ := ry)
  all_goals (try subst ry)
  · exact ⟨c_list_none hl hu, c_none_list hl hu⟩
  · exact ⟨c_list_bool _ hl hu, c_bool_list _ hl hu⟩
  · exact ⟨c_list_int _ _ hl hu, c_int_list _ _ hl hu⟩
  · exact ⟨c_list_str _ _ hl hu, c_str_list _ _ hl hu⟩
theorem tp_cmp {A : Around} {b : D} {y : V} {v : Value} {l : Addr} {items : Array Value} (hu : A.units < cLine) (hl : s.heap.IsTuple l items) (rb : Rp X.K H b y) (ry : L2.RelV y v) (hb : eqOk 0 b = true) :
    Cmp A s (.ref l) v false ∧ Cmp A s v (.ref l) false := by
  cases b <;> simp only [eqOk] at hb <;> first | (cases hb; done) | skip
  all_goals (simp only [Rp] at rb; subst rb; simp only [L2.RelV] at ry)
  all_goals (try obtain ⟨t', ry⟩ := ry)
  all_goals (try subst ry)
  · exact ⟨c_tuple_none hl hu, c_none_tuple hl hu⟩
  · exact ⟨c_tuple_bool _ hl hu, c_bool_tuple _ hl hu⟩
  · exact ⟨c_tuple_int _ _ hl hu, c_int_tuple _ _ hl hu⟩
  · exact ⟨c_tuple_str _ _ hl hu, c_str_tuple _ _ hl hu⟩
def dep : D → Nat
  | .tup _ => 1
  | .lst _ => 1
  | .frz _ => 1
  | _ => 0
theorem eqOk_sc : ∀ {a : D} {n : Nat}, eqOk n a = true → dep a = 0 → eqOk 0 a = true
  | .non, _, _, _ => by simp [eqOk]
  | .bl _, _, _, _ => by simp [eqOk]
  | .int _, _, _, _ => by simp [eqOk]
  | .str _, _, _, _ => by simp [eqOk]
  | .byt _, n, h, _ => by simp [eqOk] at h
  | .tup _, _, _, h => by simp [dep] at h
  | .lst _, _, _, h => by simp [dep] at h
  | .frz _, _, _, h => by simp [dep] at h
theorem seq_cmp (I : Inv X pins σ H s) {n : Nat} {A : Around} {ds es : List D} {vs us : List V} {its its2 : List Value} (hu : A.units + (n + 1) < cLine) (oa : ds.all (eqOk n) = true) (ob : es.all (eqOk n) = true)
    (ih : ∀ (A : Around) (a b : D) (x y : V) (u v : Value), A.units + n < cLine → eqOk n a = true → eqOk n b = true → Rp X.K H a x → Rp X.K H b y → L2.RelV x u → L2.RelV y v → Cmp A s u v (eqD a b) ∧ (x = y → eqD a b = true))
    (ra : Rps X.K H ds vs) (rb : Rps X.K H es us) (r1 : Vals vs its) (r2 : Vals us its2) :
    ∀ j (h1 : j < its.toArray.size) (h2 : j < its2.toArray.size), SeqAt.EqAt A.in1 s its.toArray[j] its2.toArray[j] (eqD (ds.getD j .non) (es.getD j .non)) := by
  intro j h1 h2
  have l1 := r1.length
  have l2 := r2.length
  have k1 := ra.length
  have k2 := rb.length
  simp only [List.size_toArray] at h1 h2
  have e1 : ds[j]? = some (ds[j]'(by omega)) := List.getElem?_eq_getElem _
  have e2 : es[j]? = some (es[j]'(by omega)) := List.getElem?_eq_getElem _
  obtain ⟨v1, q1, p1⟩ := ra.get e1
  obtain ⟨v2, q2, p2⟩ := rb.get e2
  obtain ⟨u1, w1, t1⟩ := r1.get q1
  obtain ⟨u2, w2, t2⟩ := r2.get q2
  have z1 : its.toArray[j] = u1 := by
    rw [List.getElem_toArray]
    exact Option.some.inj ((List.getElem?_eq_getElem _).symm.trans w1)
  have z2 : its2.toArray[j] = u2 := by
    rw [List.getElem_toArray]
    exact Option.some.inj ((List.getElem?_eq_getElem _).symm.trans w2)
  rw [z1, z2]
  have := (ih A.in1 _ _ v1 v2 u1 u2 (by show A.units + 1 + n < _; omega) (List.all_eq_true.mp oa _ (List.mem_of_getElem? e1)) (List.all_eq_true.mp ob _ (List.mem_of_getElem? e2)) p1 p2 t1 t2).1.eq
  simpa [List.getD, e1, e2] using this
theorem seq_same {n : Nat} (hu : 0 + n < cLine)
    (ih : ∀ (A : Around) (a b : D) (x y : V) (u v : Value), A.units + n < cLine → eqOk n a = true → eqOk n b = true → Rp X.K H a x → Rp X.K H b y → L2.RelV x u → L2.RelV y v → Cmp A s u v (eqD a b) ∧ (x = y → eqD a b = true)) (A : Around) (hA : A.units + n < cLine) :
    ∀ (ds es : List D) (vs : List V) (its : List Value), ds.all (eqOk n) = true → es.all (eqOk n) = true → Rps X.K H ds vs → Rps X.K H es vs → Vals vs its → eqDs ds es = true
  | [], [], _, _, _, _, _, _, _ => by simp [eqDs]
  | [], _ :: _, _, _, _, _, h1, h2, _ => by
    simp only [Rps] at h1 h2
    subst h1
    obtain ⟨_, _, e, _⟩ := h2
    cases e
  | _ :: _, [], _, _, _, _, h1, h2, _ => by
    simp only [Rps] at h1 h2
    subst h2
    obtain ⟨_, _, e, _⟩ := h1
    cases e
  | d :: ds, e :: es, vs, its, oa, ob, h1, h2, r => by
    simp only [Rps] at h1 h2
    obtain ⟨v, q, rfl, a1, a2⟩ := h1
    obtain ⟨v', q', e', b1, b2⟩ := h2
    cases e'
    cases r with
    | cons r1 r2 =>
      simp only [List.all_cons, Bool.and_eq_true] at oa ob
      simp only [eqDs, Bool.and_eq_true]
      exact ⟨(ih A d e v v _ _ hA oa.1 ob.1 a1 b1 r1 r1).2 rfl, seq_same hu ih A hA ds es q _ oa.2 ob.2 a2 b2 r2⟩
theorem cmp_all (I : Inv X pins σ H s) : ∀ (n : Nat) (A : Around) (a b : D) (x y : V) (u v : Value), A.units + n < cLine → eqOk n a = true → eqOk n b = true → Rp X.K H a x → Rp X.K H b y → L2.RelV x u → L2.RelV y v →
    Cmp A s u v (eqD a b) ∧ (x = y → eqD a b = true) := by
  intro n
  induction n with
  | zero => exact fun A a b x y u v hu oa ob ra rb rx ry => sc_cmp ra rb rx ry oa ob
  | succ n ih =>
    -- lists, tuples
    have LL : ∀ (A : Around) (ds es : List D) (l b : Addr) (vs us : List V), A.units + (n + 1) < cLine → ds.all (eqOk n) = true → es.all (eqOk n) = true → SqL X.K H l vs → SqL X.K H b us → Rps X.K H ds vs → Rps X.K H es us →
        Cmp A s (.ref l) (.ref b) (eqDs ds es) ∧ (V.ref l = V.ref b → eqDs ds es = true) := by
      intro A ds es l b vs us hu oa ob h1 h2 ra rb
      obtain ⟨its, r1, p1⟩ := isList_of I h1
      obtain ⟨its2, r2, p2⟩ := isList_of I h2
      have same : l = b → eqDs ds es = true := fun e => by
        subst e
        have := I.list_inj h1 h2
        subst this
        exact seq_same (by omega) ih A (by omega) ds es vs its oa ob ra rb r1
      have rcne : SeqAt.RcAt A s (.ref l) (.ref b) (eqDs ds es) ∧ SeqAt.RcNeAt A s (.ref l) (.ref b) (!eqDs ds es) := by
        have l1 := r1.length
        have l2 := r2.length
        have k1 := ra.length
        have k2 := rb.length
        by_cases hz : ds.length = es.length
        · have hsz : its.toArray.size = its2.toArray.size := by simp only [List.size_toArray]; omega
          have t := seq_cmp I hu oa ob ih ra rb r1 r2
          have c1 := SeqAt.RcAt.lists p1 p2 hsz (by omega) t
          have c2 := SeqAt.RcNeAt.lists p1 p2 hsz (by omega) t
          have z : its.toArray.size = ds.length := by simp only [List.size_toArray]; omega
          rw [z, eqDs_range ds es hz] at c1 c2
          exact ⟨c1, c2⟩
        · have hsz : (its.toArray.size != its2.toArray.size) = true := by simp only [List.size_toArray, bne_iff_ne]; omega
          rw [eqDs_len ds es hz]
          exact ⟨SeqAt.RcAt.lists_lengths p1 p2 hsz (by omega), SeqAt.RcNeAt.lists_lengths p1 p2 hsz (by omega)⟩
      refine ⟨⟨rcne.1, rcne.2, ?_⟩, fun e => same (V.ref.inj e)⟩
      by_cases e : l = b
      · have := same e
        subst e
        rw [this]
        exact SeqAt.EqAt.same _
      · exact SeqAt.EqAt.of_refs e rcne.1
    have TT : ∀ (A : Around) (ds es : List D) (l b : Addr) (vs us : List V), A.units + (n + 1) < cLine → ds.all (eqOk n) = true → es.all (eqOk n) = true → SqT X.K H l vs → SqT X.K H b us → Rps X.K H ds vs → Rps X.K H es us →
        Cmp A s (.ref l) (.ref b) (eqDs ds es) ∧ (V.ref l = V.ref b → eqDs ds es = true) := by
      intro A ds es l b vs us hu oa ob h1 h2 ra rb
      obtain ⟨its, r1, p1⟩ := isTuple_of I h1
      obtain ⟨its2, r2, p2⟩ := isTuple_of I h2
      have same : l = b → eqDs ds es = true := fun e => by
        subst e
        have := I.tuple_inj h1 h2
        subst this
        exact seq_same (by omega) ih A (by omega) ds es vs its oa ob ra rb r1
      have rcne : SeqAt.RcAt A s (.ref l) (.ref b) (eqDs ds es) ∧ SeqAt.RcNeAt A s (.ref l) (.ref b) (!eqDs ds es) := by
        have l1 := r1.length
        have l2 := r2.length
        have k1 := ra.length
        have k2 := rb.length
        have t := seq_cmp I hu oa ob ih ra rb r1 r2
        have c1 := SeqAt.RcAt.tuples p1 p2 (by omega) t
        have c2 := SeqAt.RcNeAt.tuples p1 p2 (by omega) t
        have z : its.toArray.size = ds.length := by simp only [List.size_toArray]; omega
        have z2 : its2.toArray.size = es.length := by simp only [List.size_toArray]; omega
        rw [z, z2] at c1 c2
        by_cases hz : ds.length = es.length
        · have m : min ds.length es.length = ds.length := by omega
          rw [m, eqDs_range ds es hz, hz, beq_self_eq_true, Bool.and_true] at c1 c2
          exact ⟨c1, c2⟩
        · have m : (ds.length == es.length) = false := by simpa using hz
          rw [m, Bool.and_false] at c1 c2
          rw [eqDs_len ds es hz]
          exact ⟨c1, c2⟩
      refine ⟨⟨rcne.1, rcne.2, ?_⟩, fun e => same (V.ref.inj e)⟩
      by_cases e : l = b
      · have := same e
        subst e
        rw [this]
        exact SeqAt.EqAt.same _
      · exact SeqAt.EqAt.of_refs e rcne.1
    have LT : ∀ (A : Around) (l b : Addr) (vs us : List V), A.units + (n + 1) < cLine → SqL X.K H l vs → SqT X.K H b us → Cmp A s (.ref l) (.ref b) false ∧ Cmp A s (.ref b) (.ref l) false ∧ l ≠ b := by
      intro A l b vs us hu h1 h2
      obtain ⟨its, r1, p1⟩ := isList_of I h1
      obtain ⟨its2, r2, p2⟩ := isTuple_of I h2
      have hu' : A.units < cLine := by omega
      exact ⟨⟨SeqAt.RcAt.list_tuple p1 p2 hu', SeqAt.RcNeAt.list_tuple p1 p2 hu', SeqAt.EqAt.list_tuple p1 p2 hu'⟩, ⟨SeqAt.RcAt.tuple_list p2 p1 hu', SeqAt.RcNeAt.tuple_list p2 p1 hu', SeqAt.EqAt.tuple_list p2 p1 hu'⟩, SeqAt.ne_of_list_tuple p1 p2⟩
    intro A a b x y u v hu oa ob ra rb rx ry
    have hu' : A.units < cLine := by omega
    by_cases da : dep a = 0
    · by_cases db : dep b = 0
      · exact sc_cmp ra rb rx ry (eqOk_sc oa da) (eqOk_sc ob db)
      · have oa0 := eqOk_sc oa da
        cases b with
        | tup es =>
          simp only [Rp] at rb
          obtain ⟨p, vs, rfl, h1, h2⟩ := rb
          cases ry
          obtain ⟨its, r1, p1⟩ := isTuple_of I h1
          have e : eqD a (.tup es) = false := by cases a <;> first | rfl | (simp [dep] at da)
          rw [e]
          refine ⟨(tp_cmp hu' p1 ra rx oa0).2, fun z => ?_⟩
          subst z
          cases a <;> first | (simp [dep] at da; done) | (simp [eqOk] at oa0; done) | (simp only [Rp] at ra; cases ra)
        | lst es =>
          simp only [Rp] at rb
          obtain ⟨p, vs, rfl, h1, h2⟩ := rb
          cases ry
          obtain ⟨its, r1, p1⟩ := isList_of I h1
          have e : eqD a (.lst es) = false := by cases a <;> first | rfl | (simp [dep] at da)
          rw [e]
          refine ⟨(ls_cmp hu' p1 ra rx oa0).2, fun z => ?_⟩
          subst z
          cases a <;> first | (simp [dep] at da; done) | (simp [eqOk] at oa0; done) | (simp only [Rp] at ra; cases ra)
        | frz es =>
          simp only [Rp] at rb
          obtain ⟨p, vs, rfl, h1, h2⟩ := rb
          cases ry
          obtain ⟨its, r1, p1⟩ := isList_of I h1
          have e : eqD a (.frz es) = false := by cases a <;> first | rfl | (simp [dep] at da)
          rw [e]
          refine ⟨(ls_cmp hu' p1 ra rx oa0).2, fun z => ?_⟩
          subst z
          cases a <;> first | (simp [dep] at da; done) | (simp [eqOk] at oa0; done) | (simp only [Rp] at ra; cases ra)
        | _ => exact absurd rfl db
    · by_cases db : dep b = 0
      · have ob0 := eqOk_sc ob db
        cases a with
        | tup es =>
          simp only [Rp] at ra
          obtain ⟨p, vs, rfl, h1, h2⟩ := ra
          cases rx
          obtain ⟨its, r1, p1⟩ := isTuple_of I h1
          have e : eqD (.tup es) b = false := by cases b <;> first | rfl | (simp [dep] at db)
          rw [e]
          refine ⟨(tp_cmp hu' p1 rb ry ob0).1, fun z => ?_⟩
          subst z
          cases b <;> first | (simp [dep] at db; done) | (simp [eqOk] at ob0; done) | (simp only [Rp] at rb; cases rb)
        | lst es =>
          simp only [Rp] at ra
          obtain ⟨p, vs, rfl, h1, h2⟩ := ra
          cases rx
          obtain ⟨its, r1, p1⟩ := isList_of I h1
          have e : eqD (.lst es) b = false := by cases b <;> first | rfl | (simp [dep] at db)
          rw [e]
          refine ⟨(ls_cmp hu' p1 rb ry ob0).1, fun z => ?_⟩
          subst z
          cases b <;> first | (simp [dep] at db; done) | (simp [eqOk] at ob0; done) | (simp only [Rp] at rb; cases rb)
        | frz es =>
          simp only [Rp] at ra
          obtain ⟨p, vs, rfl, h1, h2⟩ := ra
          cases rx
          obtain ⟨its, r1, p1⟩ := isList_of I h1
          have e : eqD (.frz es) b = false := by cases b <;> first | rfl | (simp [dep] at db)
          rw [e]
          refine ⟨(ls_cmp hu' p1 rb ry ob0).1, fun z => ?_⟩
          subst z
          cases b <;> first | (simp [dep] at db; done) | (simp [eqOk] at ob0; done) | (simp only [Rp] at rb; cases rb)
        | _ => exact absurd rfl da
      · have SEQ : ∀ d : D, dep d ≠ 0 → (∃ ds, d = .tup ds) ∨ (∃ ds, d = .lst ds ∨ d = .frz ds) := fun d hd => by
          cases d <;> first | (exact absurd rfl hd) | (exact .inl ⟨_, rfl⟩) | (exact .inr ⟨_, .inl rfl⟩) | (exact .inr ⟨_, .inr rfl⟩)
        have RL : ∀ (d : D) (ds : List D) (x : V), (d = .lst ds ∨ d = .frz ds) → eqOk (n + 1) d = true → Rp X.K H d x → ds.all (eqOk n) = true ∧ ∃ p vs, x = .ref p ∧ SqL X.K H p vs ∧ Rps X.K H ds vs := fun d ds x h o r => by
          rcases h with rfl | rfl <;> simp only [eqOk, Rp] at o r <;> exact ⟨o, r⟩
        rcases SEQ a da with ⟨ds, rfl⟩ | ⟨ds, ha⟩
        · simp only [Rp] at ra
          simp only [eqOk] at oa
          obtain ⟨p, vs, rfl, h1, h2⟩ := ra
          cases rx
          rcases SEQ b db with ⟨es, rfl⟩ | ⟨es, hb⟩
          · simp only [Rp] at rb
            simp only [eqOk] at ob
            obtain ⟨p', us, rfl, h1', h2'⟩ := rb
            cases ry
            have := TT A ds es p p' vs us hu oa ob h1 h1' h2 h2'
            simpa only [eqD] using this
          · obtain ⟨ob, p', us, rfl, h1', h2'⟩ := RL b es y hb ob rb
            cases ry
            have e : eqD (.tup ds) b = false := by rcases hb with rfl | rfl <;> rfl
            rw [e]
            obtain ⟨_, c, ne⟩ := LT A p' p us vs hu h1' h1
            exact ⟨c, fun z => absurd (V.ref.inj z).symm ne⟩
        · obtain ⟨oa, p, vs, rfl, h1, h2⟩ := RL a ds x ha oa ra
          cases rx
          rcases SEQ b db with ⟨es, rfl⟩ | ⟨es, hb⟩
          · simp only [Rp] at rb
            simp only [eqOk] at ob
            obtain ⟨p', us, rfl, h1', h2'⟩ := rb
            cases ry
            have e : eqD a (.tup es) = false := by rcases ha with rfl | rfl <;> rfl
            rw [e]
            obtain ⟨c, _, ne⟩ := LT A p p' vs us hu h1 h1'
            exact ⟨c, fun z => absurd (V.ref.inj z) ne⟩
          · obtain ⟨ob, p', us, rfl, h1', h2'⟩ := RL b es y hb ob rb
            cases ry
            have e : eqD a b = eqDs ds es := by rcases ha with rfl | rfl <;> rcases hb with rfl | rfl <;> rfl
            rw [e]
            exact LL A ds es p p' vs us hu oa ob h1 h1' h2 h2'
end
/-- == as an operation on data -/
def nilly : D → Bool
  | .lst [] => true
  | .tup [] => true
  | _ => false
def eqC (a b : D) : Option Bool := match a, b with
  | .lst xs, .lst [] => some xs.isEmpty
  | .tup xs, .tup [] => some xs.isEmpty
  | a, b => if eqOk 60 a && eqOk 60 b then some (eqD a b) else none
def cmpEq (a b : D) : Option D := (eqC a b).map .bl
def cmpNe (a b : D) : Option D := (eqC a b).map fun k => .bl (!k)
section
variable {X : Cx} {pins : List (Addr × Obj)} {σ : L2.St} {H : Hp} {s : Shared}
theorem eqC_cmp (I : Inv X pins σ H s) {A : Around} {a b : D} {x y : V} {u v : Value} {k : Bool} (hu : A.units + 64 < cLine) (e : eqC a b = some k) (ra : Rp X.K H a x) (rb : Rp X.K H b y) (rx : L2.RelV x u) (ry : L2.RelV y v) :
    SeqAt.RcAt A s u v k ∧ SeqAt.RcNeAt A s u v (!k) := by
  have hu' : A.units < cLine := by omega
  have gen : (if eqOk 60 a && eqOk 60 b then some (eqD a b) else none) = some k → SeqAt.RcAt A s u v k ∧ SeqAt.RcNeAt A s u v (!k) := fun e => by
    split at e
    · rename_i h
      simp only [Bool.and_eq_true] at h
      cases e
      have := (cmp_all I 60 A a b x y u v (by omega) h.1 h.2 ra rb rx ry).1
      exact ⟨this.rc, this.ne⟩
    · cases e
  unfold eqC at e
  split at e
  · rename_i xs
    cases e
    simp only [Rp, Rps] at ra rb
    obtain ⟨p, vs, rfl, h1, q1⟩ := ra
    obtain ⟨p', us, rfl, h2, rfl⟩ := rb
    cases rx
    cases ry
    obtain ⟨its, r1, p1⟩ := isList_of I h1
    obtain ⟨its2, r2, p2⟩ := isList_of I h2
    have l1 := r1.length
    have l2 := r2.length
    have k1 := q1.length
    obtain rfl : its2 = [] := List.eq_nil_of_length_eq_zero l2.symm
    cases xs with
    | nil =>
      have hz : its.toArray.size = ([] : List Value).toArray.size := by simp only [List.size_toArray, List.length_nil] at k1 ⊢; omega
      have c1 := SeqAt.RcAt.lists (A := A) (e := fun _ => true) p1 p2 hz hu' (fun j _ h => by simp at h)
      have c2 := SeqAt.RcNeAt.lists (A := A) (e := fun _ => true) p1 p2 hz hu' (fun j _ h => by simp at h)
      rw [hz] at c1 c2
      exact ⟨c1, c2⟩
    | cons d ds =>
      have hz : (its.toArray.size != ([] : List Value).toArray.size) = true := by simp only [List.size_toArray, List.length_nil, List.length_cons, bne_iff_ne] at k1 ⊢; omega
      exact ⟨SeqAt.RcAt.lists_lengths p1 p2 hz hu', SeqAt.RcNeAt.lists_lengths p1 p2 hz hu'⟩
  · rename_i xs
    cases e
    simp only [Rp, Rps] at ra rb
    obtain ⟨p, vs, rfl, h1, q1⟩ := ra
    obtain ⟨p', us, rfl, h2, rfl⟩ := rb
    cases rx
    cases ry
    obtain ⟨its, r1, p1⟩ := isTuple_of I h1
    obtain ⟨its2, r2, p2⟩ := isTuple_of I h2
    have l1 := r1.length
    have l2 := r2.length
    have k1 := q1.length
    obtain rfl : its2 = [] := List.eq_nil_of_length_eq_zero l2.symm
    have c1 := SeqAt.RcAt.tuples (A := A) (e := fun _ => true) p1 p2 hu' (fun j _ h => by simp at h)
    have c2 := SeqAt.RcNeAt.tuples (A := A) (e := fun _ => true) p1 p2 hu' (fun j _ h => by simp at h)
    have z : ((List.range (min its.toArray.size ([] : List Value).toArray.size)).all (fun _ => true) && its.toArray.size == ([] : List Value).toArray.size) = xs.isEmpty := by
      cases xs with
      | nil =>
        have : its.length = 0 := by simp only [List.length_nil] at k1; omega
        simp [this]
      | cons d ds =>
        have : its.length ≠ 0 := by simp only [List.length_cons] at k1; omega
        simp [this]
    rw [z] at c1 c2
    exact ⟨c1, c2⟩
  · exact gen e
end
section
variable {X : Cx} {g : G} {a b : Expr} {ma mb : ME} {pos : Pos}
def rEqC (g : G) (X : Cx) (neg : Bool) : R2 := fun x y H Q => ∃ a b k, eqC a b = some k ∧ Rp X.K H a x ∧ Rp X.K H b y ∧ Q (.bl (if neg then !k else k)) H
theorem op_eqC (hu : X.A.units + 64 < cLine) : OpR X (compareOp .Eq) (rEqC g X false) := by
  intro pins s σ H x y v u Q I rx ry h
  obtain ⟨a, b, k, e, ra, rb, q⟩ := h
  exact (eqC_cmp I hu e ra rb rx ry).1 _ _ _ _ ⟨.bl k, H, I, rfl, q⟩
theorem op_neC (hu : X.A.units + 64 < cLine) : OpR X (compareOp .NotEq) (rEqC g X true) := by
  intro pins s σ H x y v u Q I rx ry h
  obtain ⟨a, b, k, e, ra, rb, q⟩ := h
  exact (eqC_cmp I hu e ra rb rx ry).2 _ _ _ _ ⟨.bl (!k), H, I, rfl, q⟩
/-- a comparison by data -/
def CR (X : Cx) (g : G) (op : CmpOp) (f : D → D → Option D) : Prop := ∃ r : R2, OpR X (compareOp op) r ∧
  ∀ ρ S x y u v σ H Q, Rl g.K g.F ρ S H → RepW g.K H g.F ρ x u → RepW g.K H g.F ρ y v → Run g (rW g) (o2 f x y S) ρ σ H Q → r u v H Q
theorem c_eq (hu : X.A.units + 64 < cLine) (hK : g.K = X.K := by rfl) : CR X g .Eq cmpEq := by
  refine ⟨_, op_eqC (g := g) hu, run_o2 fun ρ S a b c u v H Q l ra rb h q => ?_⟩
  unfold cmpEq at h
  cases e : eqC a b with
  | none => rw [e] at h; cases h
  | some k =>
    rw [e] at h
    cases h
    exact ⟨a, b, k, e, hK ▸ ra.rp, hK ▸ rb.rp, same_q l (.bl _) q⟩
theorem c_ne (hu : X.A.units + 64 < cLine) (hK : g.K = X.K := by rfl) : CR X g .NotEq cmpNe := by
  refine ⟨_, op_neC (g := g) hu, run_o2 fun ρ S a b c u v H Q l ra rb h q => ?_⟩
  unfold cmpNe at h
  cases e : eqC a b with
  | none => rw [e] at h; cases h
  | some k =>
    rw [e] at h
    cases h
    exact ⟨a, b, k, e, hK ▸ ra.rp, hK ▸ rb.rp, same_q l (.bl _) q⟩
end
end Mi

namespace Mi
open PySem PySem.Spec PyProof.Rows L2

/-! ### order -/
def strLt (x y : Str) : Bool := decide (x.cps.toList < y.cps.toList)
def cmpLt : D → D → Option D
  | .int i, .int j => some (.bl (decide (i < j)))
  | .str x, .str y => some (.bl (strLt x y))
  | _, _ => none
def cmpLe : D → D → Option D
  | .int i, .int j => some (.bl (decide (i ≤ j)))
  | .str x, .str y => some (.bl (!strLt y x))
  | _, _ => none
def cmpGt : D → D → Option D
  | .int i, .int j => some (.bl (decide (j < i)))
  | .str x, .str y => some (.bl (strLt y x))
  | _, _ => none
def cmpGe : D → D → Option D
  | .int i, .int j => some (.bl (decide (j ≤ i)))
  | .str x, .str y => some (.bl (!strLt x y))
  | _, _ => none
/-- x in y -/
def inStr (x y : Str) : Bool := !(Builtin.Str.occurrences y x 0 y.length 1).isEmpty
def inD (x y : D) : Option Bool := match y with
  | .str b => match x with
    | .str a => some (inStr a b)
    | _ => none
  | .lst ds => if eqOk 60 x && ds.all (eqOk 60) then some (ds.any fun d => eqD d x) else none
  | .tup ds => if eqOk 60 x && ds.all (eqOk 60) then some (ds.any fun d => eqD d x) else none
  | .frz ds => if eqOk 60 x && ds.all (eqOk 60) then some (ds.any fun d => eqD d x) else none
  | _ => none
def cmpIn (x y : D) : Option D := (inD x y).map .bl
def cmpNotIn (x y : D) : Option D := (inD x y).map fun k => .bl (!k)
theorem cmpLt_inv : ∀ a b c, cmpLt a b = some c → (∃ i j, a = .int i ∧ b = .int j ∧ c = .bl (decide (i < j))) ∨ ∃ i j, a = .str i ∧ b = .str j ∧ c = .bl (strLt i j) := fun a b c h => by
  unfold cmpLt at h
  split at h
  · cases h; exact .inl ⟨_, _, rfl, rfl, rfl⟩
  · cases h; exact .inr ⟨_, _, rfl, rfl, rfl⟩
  · cases h
theorem cmpLe_inv : ∀ a b c, cmpLe a b = some c → (∃ i j, a = .int i ∧ b = .int j ∧ c = .bl (decide (i ≤ j))) ∨ ∃ i j, a = .str i ∧ b = .str j ∧ c = .bl (!strLt j i) := fun a b c h => by
  unfold cmpLe at h
  split at h
  · cases h; exact .inl ⟨_, _, rfl, rfl, rfl⟩
  · cases h; exact .inr ⟨_, _, rfl, rfl, rfl⟩
  · cases h
theorem cmpGt_inv : ∀ a b c, cmpGt a b = some c → (∃ i j, a = .int i ∧ b = .int j ∧ c = .bl (decide (j < i))) ∨ ∃ i j, a = .str i ∧ b = .str j ∧ c = .bl (strLt j i) := fun a b c h => by
  unfold cmpGt at h
  split at h
  · cases h; exact .inl ⟨_, _, rfl, rfl, rfl⟩
  · cases h; exact .inr ⟨_, _, rfl, rfl, rfl⟩
  · cases h
theorem cmpGe_inv : ∀ a b c, cmpGe a b = some c → (∃ i j, a = .int i ∧ b = .int j ∧ c = .bl (decide (j ≤ i))) ∨ ∃ i j, a = .str i ∧ b = .str j ∧ c = .bl (!strLt i j) := fun a b c h => by
  unfold cmpGe at h
  split at h
  · cases h; exact .inl ⟨_, _, rfl, rfl, rfl⟩
  · cases h; exact .inr ⟨_, _, rfl, rfl, rfl⟩
  · cases h
section
variable {X : Cx} {g : G} {a b : Expr} {ma mb : ME} {pos : Pos}
/-- an operation's rule by data -/
theorem run_ord {f : D → D → Option D} {r1 r2 : R2} {p : Int → Int → Bool} {q : Str → Str → Bool}
    (hf : ∀ a b c, f a b = some c → (∃ i j, a = .int i ∧ b = .int j ∧ c = .bl (p i j)) ∨ ∃ i j, a = .str i ∧ b = .str j ∧ c = .bl (q i j))
    (h1 : ∀ i j H (Q : VK), Q (.bl (p i j)) H → r1 (.int i) (.int j) H Q) (h2 : ∀ i j H (Q : VK), Q (.bl (q i j)) H → r2 (.str i) (.str j) H Q) :
    ∀ ρ S x y u v σ H Q, Rl g.K g.F ρ S H → RepW g.K H g.F ρ x u → RepW g.K H g.F ρ y v → Run g (rW g) (o2 f x y S) ρ σ H Q → (fun x y H Q => r1 x y H Q ∨ r2 x y H Q : R2) u v H Q := by
  refine run_o2 fun ρ S a b c u v H Q l ra rb h q => ?_
  rcases hf a b c h with ⟨i, j, rfl, rfl, rfl⟩ | ⟨i, j, rfl, rfl, rfl⟩
  · rw [RepR.int_inv ra, RepR.int_inv rb]
    exact .inl (h1 _ _ _ _ (same_q l (.bl _) q))
  · rw [(RepR.str_inv ra).1, (RepR.str_inv rb).1]
    exact .inr (h2 _ _ _ _ (same_q l (.bl _) q))
theorem c_lt : CR X g .Lt cmpLt := ⟨_, op_lt.or op_lt_str, run_ord (p := fun i j => decide (i < j)) (q := strLt) cmpLt_inv (fun i j H Q q => ⟨i, j, rfl, rfl, q⟩) (fun i j H Q q => ⟨i, j, rfl, rfl, q⟩)⟩
theorem c_le : CR X g .LtE cmpLe := ⟨_, op_le.or op_le_str, run_ord (p := fun i j => decide (i ≤ j)) (q := fun x y => !strLt y x) cmpLe_inv (fun i j H Q q => ⟨i, j, rfl, rfl, q⟩) (fun i j H Q q => ⟨i, j, rfl, rfl, q⟩)⟩
theorem c_gt : CR X g .Gt cmpGt := ⟨_, op_gt.or op_gt_str, run_ord (p := fun i j => decide (j < i)) (q := fun x y => strLt y x) cmpGt_inv (fun i j H Q q => ⟨i, j, rfl, rfl, q⟩) (fun i j H Q q => ⟨i, j, rfl, rfl, q⟩)⟩
theorem c_ge : CR X g .GtE cmpGe := ⟨_, op_ge.or op_ge_str, run_ord (p := fun i j => decide (j ≤ i)) (q := fun x y => !strLt x y) cmpGe_inv (fun i j H Q q => ⟨i, j, rfl, rfl, q⟩) (fun i j H Q q => ⟨i, j, rfl, rfl, q⟩)⟩
/-! in -/
theorem eqD_cong {pins : List (Addr × Obj)} {σ : L2.St} {H : Hp} {s : Shared} (I : Inv X pins σ H s) : ∀ (n : Nat) (d1 d2 : D) (w : V), eqOk n d1 = true → eqOk n d2 = true → Rp X.K H d1 w → Rp X.K H d2 w → ∀ x, eqD d1 x = eqD d2 x := by
  intro n
  induction n with
  | zero =>
    intro d1 d2 w o1 o2 r1 r2 x
    cases d1 <;> simp only [eqOk] at o1 <;> first | (cases o1; done) | skip
    all_goals (cases d2 <;> simp only [eqOk] at o2 <;> first | (cases o2; done) | skip)
    all_goals (simp only [Rp] at r1 r2; subst r1; first | (cases r2; done) | (cases r2; rfl))
  | succ n ih =>
    intro d1 d2 w o1 o2 r1 r2 x
    have seq : ∀ (ds es : List D) (vs : List V), ds.all (eqOk n) = true → es.all (eqOk n) = true → Rps X.K H ds vs → Rps X.K H es vs → ∀ xs, eqDs ds xs = eqDs es xs := by
      intro ds
      induction ds with
      | nil =>
        intro es vs _ _ h1 h2 xs
        simp only [Rps] at h1
        subst h1
        cases es with
        | nil => rfl
        | cons e es => simp only [Rps] at h2; obtain ⟨_, _, e, _⟩ := h2; cases e
      | cons d ds ih2 =>
        intro es vs oa ob h1 h2 xs
        simp only [Rps] at h1
        obtain ⟨v, q, rfl, a1, a2⟩ := h1
        cases es with
        | nil => simp only [Rps] at h2; cases h2
        | cons e es =>
          simp only [Rps] at h2
          obtain ⟨v', q', e', b1, b2⟩ := h2
          cases e'
          simp only [List.all_cons, Bool.and_eq_true] at oa ob
          cases xs with
          | nil => simp only [eqDs]
          | cons y ys => simp only [eqDs]; rw [ih d e v oa.1 ob.1 a1 b1 y, ih2 es q oa.2 ob.2 a2 b2 ys]
    have LL : ∀ (ds es : List D) (p : Addr), w = .ref p → ds.all (eqOk n) = true → es.all (eqOk n) = true → (∃ vs, SqL X.K H p vs ∧ Rps X.K H ds vs) → (∃ vs, SqL X.K H p vs ∧ Rps X.K H es vs) → ∀ xs, eqDs ds xs = eqDs es xs := by
      rintro ds es p - oa ob ⟨vs, h1, q1⟩ ⟨us, h2, q2⟩ xs
      have := I.list_inj h1 h2
      subst this
      exact seq ds es vs oa ob q1 q2 xs
    have NT : ∀ (p : Addr) vs us, SqL X.K H p vs → SqT X.K H p us → False := fun p vs us h1 h2 => by
      obtain ⟨_, _, p1⟩ := isList_of I h1
      obtain ⟨_, _, p2⟩ := isTuple_of I h2
      exact SeqAt.ne_of_list_tuple p1 p2 rfl
    cases d1 <;> simp only [eqOk] at o1 <;> first | (cases o1; done) | skip
    all_goals (cases d2 <;> simp only [eqOk] at o2 <;> first | (cases o2; done) | skip)
    all_goals (simp only [Rp] at r1 r2)
    all_goals first
      | (subst r1; first | (cases r2; done) | (cases r2; rfl) | (obtain ⟨_, _, z, _⟩ := r2; cases z; done))
      | (subst r2; obtain ⟨_, _, z, _⟩ := r1; cases z; done)
      | skip
    all_goals obtain ⟨p, vs, rfl, h1, q1⟩ := r1
    all_goals obtain ⟨p', us, e, h2, q2⟩ := r2
    all_goals cases e
    · have := I.tuple_inj h1 h2
      subst this
      have := seq _ _ vs o1 o2 q1 q2
      cases x <;> simp only [eqD]
      exact this _
    · exact (NT _ _ _ h2 h1).elim
    · exact (NT _ _ _ h2 h1).elim
    · exact (NT _ _ _ h1 h2).elim
    all_goals first
      | (exact (NT _ _ _ h1 h2).elim)
      | (have := LL _ _ p rfl o1 o2 ⟨vs, h1, q1⟩ ⟨us, h2, q2⟩
         cases x <;> simp only [eqD] <;> exact this _)
theorem any_of {pins : List (Addr × Obj)} {σ : L2.St} {H : Hp} {s : Shared} (I : Inv X pins σ H s) {A : Around} (hu : A.units + 61 < cLine) {x : D} {y : V} {v : Value} (rx : Rp X.K H x y) (rv : L2.RelV y v) (hx : eqOk 60 x = true)
    (ds : List D) (vs : List V) (its : List Value) (od : ds.all (eqOk 60) = true) (rd : Rps X.K H ds vs) (r : Vals vs its) : ∃ e : Value → Bool, its.any e = ds.any (fun d => eqD d x) ∧ ∀ u ∈ its, SeqAt.EqAt A.in1 s u v (e u) := by
  have at_ : ∀ (j : Nat) u, its[j]? = some u → ∃ d w, ds[j]? = some d ∧ eqOk 60 d = true ∧ Rp X.K H d w ∧ L2.RelV w u := fun j u hj => by
    have h1 : j < its.length := (List.getElem?_eq_some_iff.mp hj).1
    have l1 := r.length
    have k1 := rd.length
    have e1 : ds[j]? = some (ds[j]'(by omega)) := List.getElem?_eq_getElem _
    obtain ⟨w1, q1, p1⟩ := rd.get e1
    obtain ⟨u1, w2, t1⟩ := r.get q1
    rw [hj] at w2
    cases w2
    exact ⟨_, w1, e1, List.all_eq_true.mp od _ (List.mem_of_getElem? e1), p1, t1⟩
  classical
  let e : Value → Bool := fun u => decide (∃ (j : Nat) (d : D), its[j]? = some u ∧ ds[j]? = some d ∧ eqD d x = true)
  have he : ∀ (j : Nat) u d, its[j]? = some u → ds[j]? = some d → e u = eqD d x := fun j u d hj hd => by
    obtain ⟨d0, w0, g0, o0, p0, t0⟩ := at_ j u hj
    rw [hd] at g0
    cases g0
    by_cases c : eqD d x = true
    · rw [c]; exact decide_eq_true ⟨j, d, hj, hd, c⟩
    · rw [Bool.eq_false_iff.mpr c]
      refine decide_eq_false ?_
      rintro ⟨k, d', hk, hd', c'⟩
      obtain ⟨d1, w1, g1, o1, p1, t1⟩ := at_ k u hk
      rw [hd'] at g1
      cases g1
      have : w0 = w1 := t0.inj t1
      subst this
      rw [eqD_cong I 60 d d' w0 o0 o1 p0 p1 x] at c
      exact c c'
  refine ⟨e, ?_, fun u hu' => ?_⟩
  · rw [Bool.eq_iff_iff, List.any_eq_true, List.any_eq_true]
    constructor
    · rintro ⟨u, hu', h⟩
      obtain ⟨j, hj⟩ := List.getElem?_of_mem hu'
      obtain ⟨d, w, g0, _⟩ := at_ j u hj
      rw [he j u d hj g0] at h
      exact ⟨d, List.mem_of_getElem? g0, h⟩
    · rintro ⟨d, hd, h⟩
      obtain ⟨j, hj⟩ := List.getElem?_of_mem hd
      have l1 := r.length
      have k1 := rd.length
      have h1 : j < ds.length := (List.getElem?_eq_some_iff.mp hj).1
      have e1 : its[j]? = some (its[j]'(by omega)) := List.getElem?_eq_getElem _
      exact ⟨_, List.mem_of_getElem? e1, by rw [he j _ d e1 hj]; exact h⟩
  · obtain ⟨j, hj⟩ := List.getElem?_of_mem hu'
    obtain ⟨d, w, g0, o0, p0, t0⟩ := at_ j u hj
    rw [he j u d hj g0]
    exact (cmp_all I 60 A.in1 d x w y u v (by show A.units + 1 + 60 < _; omega) o0 hx p0 rx t0 rv).1.eq
def rInC (K : PySem.W.Frag) (neg : Bool) : R2 := fun x y H Q => ∃ (d : D) (ds : List D) (p : Addr) (vs : List V), y = .ref p ∧ (SqL K H p vs ∨ SqT K H p vs) ∧ Rp K H d x ∧ Rps K H ds vs ∧ eqOk 60 d = true ∧ ds.all (eqOk 60) = true ∧ Q (.bl (if neg then !ds.any (fun e => eqD e d) else ds.any (fun e => eqD e d))) H
theorem op_inC (hu : X.A.units + 64 < cLine) : OpR X (compareOp .In) (rInC X.K false) := by
  intro pins s σ H x y v u Q I rx ry h
  obtain ⟨d, ds, p, vs, rfl, hp, rd, rds, o1, o2, q⟩ := h
  cases ry
  rcases hp with hp | hp
  · obtain ⟨its, r1, p1⟩ := isList_of I hp
    obtain ⟨e, e1, e2⟩ := any_of I (A := X.A) (by omega) rd rx o1 ds vs its o2 rds r1
    refine SeqAt.in_listAt e p1 (fun y hy => e2 y (by simpa using hy)) ?_
    rw [List.any_toArray, e1]
    exact ⟨.bl _, H, I, rfl, q⟩
  · obtain ⟨its, r1, p1⟩ := isTuple_of I hp
    obtain ⟨e, e1, e2⟩ := any_of I (A := X.A) (by omega) rd rx o1 ds vs its o2 rds r1
    refine SeqAt.in_tupleAt e p1 (fun y hy => e2 y (by simpa using hy)) ?_
    rw [List.any_toArray, e1]
    exact ⟨.bl _, H, I, rfl, q⟩
theorem op_notInC (hu : X.A.units + 64 < cLine) : OpR X (compareOp .NotIn) (rInC X.K true) := by
  intro pins s σ H x y v u Q I rx ry h
  obtain ⟨d, ds, p, vs, rfl, hp, rd, rds, o1, o2, q⟩ := h
  cases ry
  rcases hp with hp | hp
  · obtain ⟨its, r1, p1⟩ := isList_of I hp
    obtain ⟨e, e1, e2⟩ := any_of I (A := X.A) (by omega) rd rx o1 ds vs its o2 rds r1
    refine SeqAt.notIn_listAt e p1 (fun y hy => e2 y (by simpa using hy)) ?_
    rw [List.any_toArray, e1]
    exact ⟨.bl _, H, I, rfl, q⟩
  · obtain ⟨its, r1, p1⟩ := isTuple_of I hp
    obtain ⟨e, e1, e2⟩ := any_of I (A := X.A) (by omega) rd rx o1 ds vs its o2 rds r1
    refine SeqAt.notIn_tupleAt e p1 (fun y hy => e2 y (by simpa using hy)) ?_
    rw [List.any_toArray, e1]
    exact ⟨.bl _, H, I, rfl, q⟩
theorem inD_cases {x y : D} {k : Bool} (h : inD x y = some k) : (∃ a b, x = .str a ∧ y = .str b ∧ k = inStr a b) ∨ ∃ ds, (y = .lst ds ∨ y = .tup ds ∨ y = .frz ds) ∧ eqOk 60 x = true ∧ ds.all (eqOk 60) = true ∧ k = ds.any fun d => eqD d x := by
  have go : ∀ ds : List D, (if eqOk 60 x && ds.all (eqOk 60) then some (ds.any fun d => eqD d x) else none) = some k → eqOk 60 x = true ∧ ds.all (eqOk 60) = true ∧ k = ds.any fun d => eqD d x := fun ds h => by
    split at h
    · rename_i c
      simp only [Bool.and_eq_true] at c
      cases h
      exact ⟨c.1, c.2, rfl⟩
    · cases h
  unfold inD at h
  split at h
  · split at h
    · cases h; exact .inl ⟨_, _, rfl, rfl, rfl⟩
    · cases h
  · exact .inr ⟨_, .inl rfl, go _ h⟩
  · exact .inr ⟨_, .inr (.inl rfl), go _ h⟩
  · exact .inr ⟨_, .inr (.inr rfl), go _ h⟩
  · cases h
theorem c_in (hu : X.A.units + 64 < cLine) (hK : g.K = X.K := by rfl) : CR X g .In cmpIn := by
  refine ⟨_, op_in_str.or (op_inC hu), run_o2 fun ρ S a b c u v H Q l ra rb h q => ?_⟩
  unfold cmpIn at h
  cases e : inD a b with
  | none => rw [e] at h; cases h
  | some k =>
    rw [e] at h
    cases h
    rcases inD_cases e with ⟨x, y, rfl, rfl, rfl⟩ | ⟨ds, hd, o1, o2, rfl⟩
    · exact .inl ⟨_, _, (RepR.str_inv ra).1, (RepR.str_inv rb).1, same_q l (.bl _) q⟩
    · have rb' := hK ▸ rb.rp
      rcases hd with rfl | rfl | rfl <;> simp only [Rp] at rb' <;> obtain ⟨p, vs, e1, e2, e3⟩ := rb'
      · exact .inr ⟨a, ds, p, vs, e1, .inl e2, hK ▸ ra.rp, e3, o1, o2, same_q l (.bl _) q⟩
      · exact .inr ⟨a, ds, p, vs, e1, .inr e2, hK ▸ ra.rp, e3, o1, o2, same_q l (.bl _) q⟩
      · exact .inr ⟨a, ds, p, vs, e1, .inl e2, hK ▸ ra.rp, e3, o1, o2, same_q l (.bl _) q⟩
theorem c_notIn (hu : X.A.units + 64 < cLine) (hK : g.K = X.K := by rfl) : CR X g .NotIn cmpNotIn := by
  refine ⟨_, L2.op_notIn_str.or (op_notInC hu), run_o2 fun ρ S a b c u v H Q l ra rb h q => ?_⟩
  unfold cmpNotIn at h
  cases e : inD a b with
  | none => rw [e] at h; cases h
  | some k =>
    rw [e] at h
    cases h
    rcases inD_cases e with ⟨x, y, rfl, rfl, rfl⟩ | ⟨ds, hd, o1, o2, rfl⟩
    · exact .inl ⟨_, _, (RepR.str_inv ra).1, (RepR.str_inv rb).1, same_q l (.bl _) q⟩
    · have rb' := hK ▸ rb.rp
      rcases hd with rfl | rfl | rfl <;> simp only [Rp] at rb' <;> obtain ⟨p, vs, e1, e2, e3⟩ := rb'
      · exact .inr ⟨a, ds, p, vs, e1, .inl e2, hK ▸ ra.rp, e3, o1, o2, same_q l (.bl _) q⟩
      · exact .inr ⟨a, ds, p, vs, e1, .inr e2, hK ▸ ra.rp, e3, o1, o2, same_q l (.bl _) q⟩
      · exact .inr ⟨a, ds, p, vs, e1, .inl e2, hK ▸ ra.rp, e3, o1, o2, same_q l (.bl _) q⟩
end
end Mi

namespace Mi
open PySem PySem.Spec PyProof.Rows L2

/-! ### truth -/
def truD : D → Option Bool
  | .non => some false
  | .bl b => some b
  | .int i => some (i != 0)
  | .str x => some (x.length != 0)
  | .byt x => some (x.size != 0)
  | .tup xs => some !xs.isEmpty
  | .lst xs => some !xs.isEmpty
  | .frz xs => some !xs.isEmpty
def truW (x : W) (S : List C) : Option Bool := (vw x S).bind truD
theorem Rps.isEmpty {K : PySem.W.Frag} {H : Hp} {ds : List D} {vs : List V} (h : Rps K H ds vs) : vs.isEmpty = ds.isEmpty := by
  have := h.length
  cases vs <;> cases ds <;> simp_all
theorem nat_bne (n : Nat) : ((n : Int) != 0) = (n != 0) := by
  rw [Bool.eq_iff_iff]; simp
theorem truD_ok {K : PySem.W.Frag} {H : Hp} {B : Addr → Prop} {d : D} {v : V} {k : Bool} (r : RepR K H B d v) (e : truD d = some k) : TruV K v H k := by
  cases d with
  | non => cases e; rw [RepR.non_inv r]; exact rfl
  | bl b => cases e; rw [RepR.bl_inv r]; exact rfl
  | int i => cases e; rw [RepR.int_inv r]; exact rfl
  | str x =>
    cases e
    obtain ⟨h1, h2⟩ := RepR.str_inv r
    rw [h1]
    exact ⟨h2, (nat_bne _).symm⟩
  | byt x =>
    cases e
    obtain ⟨h1, h2⟩ := RepR.byt_inv r
    rw [h1]
    exact ⟨by rw [sizeLine_eq]; exact h2, (nat_bne _).symm⟩
  | tup xs =>
    cases e
    have r' := r.rp
    simp only [Rp] at r'
    obtain ⟨p, vs, rfl, h1, h2⟩ := r'
    exact .inr (.inl ⟨vs, h1, by rw [h2.isEmpty]⟩)
  | lst xs =>
    cases e
    have r' := r.rp
    simp only [Rp] at r'
    obtain ⟨p, vs, rfl, h1, h2⟩ := r'
    exact .inl ⟨vs, h1, by rw [h2.isEmpty]⟩
  | frz xs =>
    cases e
    have r' := r.rp
    simp only [Rp] at r'
    obtain ⟨p, vs, rfl, h1, h2⟩ := r'
    exact .inl ⟨vs, h1, by rw [h2.isEmpty]⟩
theorem truW_ok {g : G} {ρ : List (Option Addr)} {S : List C} {H : Hp} {x : W} {v : V} {k : Bool} (l : Rl g.K g.F ρ S H) (r : RepW g.K H g.F ρ x v) (e : truW x S = some k) : TruV g.K v H k := by
  unfold truW at e
  cases h : vw x S with
  | none => rw [h] at e; cases e
  | some d => rw [h] at e; exact truD_ok (vw_ok l r h) e
/-! ### tests, and, or, not -/
def ansT (S : List C) : Option Bool → R Bool
  | some k => .ok k S
  | none => .bad
def mTru (a : ME) : MT := fun w S => (a w S).bind fun x S1 => ansT S1 (truW x S1)
def blW (x : W) : Option Bool := match x with
  | .d (.bl k) => some k
  | _ => none
/-- a comparison as a test -/
def mB (a : ME) : MT := fun w S => (a w S).bind fun x S1 => ansT S1 (blW x)
def mAndT (a b : MT) : MT := fun w S => (a w S).bind fun c S1 => if c = true then b w S1 else .ok false S1
def mOrT (a b : MT) : MT := fun w S => (a w S).bind fun c S1 => if c = true then .ok true S1 else b w S1
def mNotT (a : MT) : MT := fun w S => (a w S).bind fun c S1 => .ok (!c) S1
def mAnd (a b : ME) : ME := fun w S => (a w S).bind fun x S1 => match truW x S1 with
  | some true => b w S1
  | some false => .ok x S1
  | none => .bad
def mOr (a b : ME) : ME := fun w S => (a w S).bind fun x S1 => match truW x S1 with
  | some true => .ok x S1
  | some false => b w S1
  | none => .bad
def mNot (a : ME) : ME := mUn (fun x S => match truW x S with
  | some k => .ok (.d (.bl (!k))) S
  | none => .bad) a
def mIf (t : MT) (a b : ME) : ME := fun w S => (t w S).bind fun c S1 => if c = true then a w S1 else b w S1
theorem RepW.blk {K : PySem.W.Frag} {H : Hp} {F : Addr → Prop} {ρ : List (Option Addr)} {k : Bool} : RepW K H F ρ (.d (.bl k)) (.bl k) := Rep.bl (K := K) (H := H) (B := bar F ρ) k
section
variable {X : Cx} {g : G} {a b c : Expr} {ma mb : ME} {mt mu : MT} {pos : Pos} {rest : List Expr}
theorem t_tru (ha : DE X g a ma) (he : ∀ whole, isTrue a X.env whole = (do let v ← whole; standAt a.pos; holding [v] (truthy v)) := by intro _; rfl) (hK : g.K = X.K := by rfl) : DT X g a (mTru ma) := by
  refine PTw (pt_truth ha he) fun σ H Q h => ?_
  obtain ⟨ρ, S, w, l, sl, h⟩ := h
  refine ⟨ρ, S, w, l, sl, Run.bnd h fun ρ1 S1 x v H1 e1 l1 r1 h1 => ?_⟩
  cases e : truW x S1 with
  | none => rw [e] at h1; exact h1.elim
  | some k =>
    rw [e] at h1
    exact ⟨k, hK ▸ truW_ok l1 r1 e, Run.ok_ l1 rfl h1⟩
theorem blW_inv {x : W} {k : Bool} (h : blW x = some k) : x = .d (.bl k) := by
  unfold blW at h
  split at h
  · cases h; rfl
  · cases h
theorem mB_le {σ : L2.St} {H : Hp} {Q : Bool → Hp → Prop} (h : LT g (mB ma) σ H Q) : LE g ma σ H fun x H' => ∃ k, x = .bl k ∧ Q k H' := by
  obtain ⟨ρ, S, w, l, sl, h⟩ := h
  refine ⟨ρ, S, w, l, sl, Run.bnd h fun ρ1 S1 x v H1 e1 l1 r1 h1 => ?_⟩
  cases e : blW x with
  | none => rw [e] at h1; exact h1.elim
  | some k =>
    rw [e] at h1
    have := blW_inv e
    subst this
    exact ⟨k, Rep.bl_inv (K := g.K) (H := H1) (B := bar g.F ρ1) r1, Run.ok_ l1 rfl h1⟩
/-- a comparison, as a value, as a test -/
theorem d_cmp {op : CmpOp} {f : D → D → Option D} (k : CR X g op f) (ha : DE X g a ma) (hb : DE X g b mb) (hm : behindInMarks op b = false) : DE X g (.Compare a [op] [b] pos) (mBin (o2 f) ma mb) :=
  let ⟨_, o, i⟩ := k
  PEw (pe_cmpR o ha hb hm) fun _ _ _ => le_bin i
theorem t_cmp {op : CmpOp} {f : D → D → Option D} (k : CR X g op f) (ha : DE X g a ma) (hb : DE X g b mb) (hm : behindInMarks op b = false) : DT X g (.Compare a [op] [b] pos) (mB (mBin (o2 f) ma mb)) :=
  let ⟨_, o, i⟩ := k
  PTw (pt_cmpR o ha hb hm) fun _ _ _ h => le_bin i (mB_le h)
theorem t_and1 (ha : DT X g a mt) : PW X (.BoolOp .And [a] pos) (LT g mt) := pw_and1 ha
theorem t_or1 (ha : DT X g a mt) : PW X (.BoolOp .Or [a] pos) (LT g mt) := pw_or1 ha
theorem PWw {e : Expr} {t t' : TT} (h : PW X e t) (i : ∀ σ H Q, t' σ H Q → t σ H Q) : PW X e t' := ⟨fun wh pins s σ H Q I q => h.run wh pins s σ H Q I (i σ H Q q)⟩
theorem t_and (ha : DT X g a mt) (hb : PW X (.BoolOp .And (b :: rest) pos) (LT g mu)) : PW X (.BoolOp .And (a :: b :: rest) pos) (LT g (mAndT mt mu)) := by
  refine PWw (pw_and ha hb) fun σ H Q h => ?_
  obtain ⟨ρ, S, w, l, sl, h⟩ := h
  refine ⟨ρ, S, w, l, sl, Run.bnd h fun ρ1 S1 k v H1 e1 l1 r1 h1 => ?_⟩
  have r1 : k = v := r1
  subst r1
  cases k with
  | true => exact ⟨ρ1, S1, w, l1, sl.mono e1, h1⟩
  | false => exact Run.ok_ l1 rfl h1
theorem t_or (ha : DT X g a mt) (hb : PW X (.BoolOp .Or (b :: rest) pos) (LT g mu)) : PW X (.BoolOp .Or (a :: b :: rest) pos) (LT g (mOrT mt mu)) := by
  refine PWw (pw_or ha hb) fun σ H Q h => ?_
  obtain ⟨ρ, S, w, l, sl, h⟩ := h
  refine ⟨ρ, S, w, l, sl, Run.bnd h fun ρ1 S1 k v H1 e1 l1 r1 h1 => ?_⟩
  have r1 : k = v := r1
  subst r1
  cases k with
  | false => exact ⟨ρ1, S1, w, l1, sl.mono e1, h1⟩
  | true => exact Run.ok_ l1 rfl h1
theorem t_not (ha : DT X g a mt) : DT X g (.UnaryOp .Not a pos) (mNotT mt) := by
  refine PTw (pt_not ha) fun σ H Q h => ?_
  obtain ⟨ρ, S, w, l, sl, h⟩ := h
  refine ⟨ρ, S, w, l, sl, Run.bnd h fun ρ1 S1 k v H1 e1 l1 r1 h1 => ?_⟩
  have r1 : k = v := r1
  subst r1
  exact Run.ok_ l1 rfl h1
theorem d_and1 {op : BoolOp} (ha : DE X g a ma) : DE X g (.BoolOp op [a] pos) ma := pe_one ha
theorem d_and (ha : DE X g a ma) (hb : DE X g (.BoolOp .And (b :: rest) pos) mb) (hK : g.K = X.K := by rfl) : DE X g (.BoolOp .And (a :: b :: rest) pos) (mAnd ma mb) := by
  refine PEw (pe_andT ha hb) fun σ H Q h => ?_
  obtain ⟨ρ, S, w, l, sl, h⟩ := h
  refine ⟨ρ, S, w, l, sl, Run.bnd h fun ρ1 S1 x v H1 e1 l1 r1 h1 => ?_⟩
  cases e : truW x S1 with
  | none => simp only [e] at h1; exact h1.elim
  | some k =>
    have t := hK ▸ truW_ok l1 r1 e
    cases k with
    | true => simp only [e] at h1; exact ⟨true, t, ⟨ρ1, S1, w, l1, sl.mono e1, h1⟩⟩
    | false => simp only [e] at h1; exact ⟨false, t, Run.ok_ l1 r1 h1⟩
theorem d_or (ha : DE X g a ma) (hb : DE X g (.BoolOp .Or (b :: rest) pos) mb) (hK : g.K = X.K := by rfl) : DE X g (.BoolOp .Or (a :: b :: rest) pos) (mOr ma mb) := by
  refine PEw (pe_orT ha hb) fun σ H Q h => ?_
  obtain ⟨ρ, S, w, l, sl, h⟩ := h
  refine ⟨ρ, S, w, l, sl, Run.bnd h fun ρ1 S1 x v H1 e1 l1 r1 h1 => ?_⟩
  cases e : truW x S1 with
  | none => simp only [e] at h1; exact h1.elim
  | some k =>
    have t := hK ▸ truW_ok l1 r1 e
    cases k with
    | false => simp only [e] at h1; exact ⟨false, t, ⟨ρ1, S1, w, l1, sl.mono e1, h1⟩⟩
    | true => simp only [e] at h1; exact ⟨true, t, Run.ok_ l1 r1 h1⟩
theorem d_not (ha : DE X g a ma) (hK : g.K = X.K := by rfl) : DE X g (.UnaryOp .Not a pos) (mNot ma) := by
  refine PEw (pe_notT ha) fun σ H Q => le_un (r := fun x H1 Q => ∃ k, TruV X.K x H1 k ∧ Q (.bl (!k)) H1) fun ρ S x v σ H Q l r h => ?_
  cases e : truW x S with
  | none => simp only [e] at h; exact h.elim
  | some k =>
    simp only [e] at h
    exact ⟨k, hK ▸ truW_ok l r e, Run.ok_ l RepW.blk h⟩
theorem d_if (hc : DT X g c mt) (ha : DE X g a ma) (hb : DE X g b mb) : DE X g (.IfExp c a b pos) (mIf mt ma mb) := by
  refine PEw (pe_ifExp hc ha hb) fun σ H Q h => ?_
  obtain ⟨ρ, S, w, l, sl, h⟩ := h
  refine ⟨ρ, S, w, l, sl, Run.bnd h fun ρ1 S1 k v H1 e1 l1 r1 h1 => ?_⟩
  have r1 : k = v := r1
  subst r1
  cases k with
  | true => exact ⟨ρ1, S1, w, l1, sl.mono e1, h1⟩
  | false => exact ⟨ρ1, S1, w, l1, sl.mono e1, h1⟩
/-! a op b op c -/
def mChain (f f' : D → D → Option D) (a b c : ME) : ME := fun w S => (a w S).bind fun x S1 => (b w S1).bind fun y S2 => (o2 f x y S2).bind fun z S3 => match blW z with
  | some true => (c w S3).bind (o2 f' y)
  | some false => .ok (.d (.bl false)) S3
  | none => .bad
theorem le_chain {f f' : D → D → Option D} {r r' : R2} {mc : ME} {σ : L2.St} {H : Hp} {Q : VK}
    (i : ∀ ρ S x y u v σ H Q, Rl g.K g.F ρ S H → RepW g.K H g.F ρ x u → RepW g.K H g.F ρ y v → Run g (rW g) (o2 f x y S) ρ σ H Q → r u v H Q)
    (i' : ∀ ρ S x y u v σ H Q, Rl g.K g.F ρ S H → RepW g.K H g.F ρ x u → RepW g.K H g.F ρ y v → Run g (rW g) (o2 f' x y S) ρ σ H Q → r' u v H Q)
    (h : LE g (mChain f f' ma mb mc) σ H Q) : tChain r r' (LE g ma) (LE g mb) (LE g mc) σ H Q := by
  obtain ⟨ρ, S, w, l, sl, h⟩ := h
  refine ⟨ρ, S, w, l, sl, Run.bnd h fun ρ1 S1 x u H1 e1 l1 r1 h1 => ?_⟩
  refine ⟨ρ1, S1, w, l1, sl.mono e1, Run.bnd h1 fun ρ2 S2 y v H2 e2 l2 r2 h2 => ?_⟩
  refine i ρ2 S2 x y u v σ H2 _ l2 (r1.mono e2) r2 (Run.bnd h2 fun ρ3 S3 z q H3 e3 l3 r3 h3 => ?_)
  cases e : blW z with
  | none => simp only [e] at h3; exact h3.elim
  | some k =>
    have := blW_inv e
    subst this
    refine ⟨k, Rep.bl_inv (K := g.K) (H := H3) (B := bar g.F ρ3) r3, ?_⟩
    cases k with
    | false => exact Run.ok_ l3 RepW.blk h3
    | true => exact ⟨ρ3, S3, w, l3, ((sl.mono e1).mono e2).mono e3, Run.bnd h3 fun ρ4 S4 z q H4 e4 l4 r4 h4 => i' ρ4 S4 y z v q σ H4 Q l4 ((r2.mono e3).mono e4) r4 h4⟩
theorem d_chain {c : Expr} {mc : ME} {op op' : CmpOp} {f f' : D → D → Option D} (k : CR X g op f) (k' : CR X g op' f') (ha : DE X g a ma) (hb : DE X g b mb) (hc : DE X g c mc)
    (hm : lastMarks [op, op'] [b, c] = false := by with_unfolding_all rfl) : DE X g (.Compare a [op, op'] [b, c] pos) (mChain f f' ma mb mc) :=
  let ⟨_, o, i⟩ := k
  let ⟨_, o', i'⟩ := k'
  PEw (pe_chain o o' ha hb hc hm) fun _ _ _ => le_chain i i'
theorem t_chain {c : Expr} {mc : ME} {op op' : CmpOp} {f f' : D → D → Option D} (k : CR X g op f) (k' : CR X g op' f') (ha : DE X g a ma) (hb : DE X g b mb) (hc : DE X g c mc)
    (hm : lastMarks [op, op'] [b, c] = false := by with_unfolding_all rfl) : DT X g (.Compare a [op, op'] [b, c] pos) (mB (mChain f f' ma mb mc)) :=
  let ⟨_, o, i⟩ := k
  let ⟨_, o', i'⟩ := k'
  PTw (pt_chain o o' ha hb hc hm) fun _ _ _ h => le_chain i i' (mB_le h)
end
/-! ### is None, is True -/
def isNon : D → Bool
  | .non => true
  | _ => false
def isBl (b : Bool) : D → Bool
  | .bl c => c == b
  | _ => false
def isD (x y : D) : Option Bool := match y with
  | .non => some (isNon x)
  | .bl b => some (isBl b x)
  | _ => none
def cmpIs (x y : D) : Option D := (isD x y).map .bl
def cmpIsNot (x y : D) : Option D := (isD x y).map fun k => .bl (!k)
section
variable {X : Cx} {g : G}
theorem is_bool_gen {M : Model} {A : Around} {E : Value → Shared → Prop} {s : Shared} {b : Bool} {v : Value} {Q : Value → Shared → Prop} {x : V} (r : L2.RelV x v) (h : Q (.bool (decide (x = .bl b))) s) : wpAny M A (compareOp .Is v (.bool b)) Q E s := by
  cases x <;> simp only [L2.RelV] at r
  case bl c =>
    subst r
    by_cases e : c = b
    · subst e
      simp only [decide_true] at h
      exact wpAny_is_self rfl h
    · exact wpAny_is_other rfl (fun z => e (Value.bool.inj z)) (by simpa [e] using h)
  all_goals (try obtain ⟨t, r⟩ := r)
  all_goals (try subst r)
  all_goals exact wpAny_pure h
theorem isnot_bool_gen {M : Model} {A : Around} {E : Value → Shared → Prop} {s : Shared} {b : Bool} {v : Value} {Q : Value → Shared → Prop} {x : V} (r : L2.RelV x v) (h : Q (.bool (!decide (x = .bl b))) s) : wpAny M A (compareOp .IsNot v (.bool b)) Q E s := by
  cases x <;> simp only [L2.RelV] at r
  case bl c =>
    subst r
    by_cases e : c = b
    · subst e
      simp only [decide_true] at h
      exact wpAny_isNot_self rfl h
    · exact wpAny_isNot_other rfl (fun z => e (Value.bool.inj z)) (by simpa [e] using h)
  all_goals (try obtain ⟨t, r⟩ := r)
  all_goals (try subst r)
  all_goals exact wpAny_pure h
def rIsC (neg : Bool) : R2 := fun x y H Q => (y = .non ∨ ∃ b, y = .bl b) ∧ Q (.bl (if neg then !decide (x = y) else decide (x = y))) H
theorem op_isC : OpR X (compareOp .Is) (rIsC false) := by
  intro pins s σ H x y v u Q I rx ry h
  obtain ⟨rfl | ⟨b, rfl⟩, q⟩ := h
  · exact op_isN pins s σ H x .non v u Q I rx ry ⟨rfl, q⟩
  · cases ry
    exact is_bool_gen rx ⟨.bl _, H, I, rfl, q⟩
theorem op_isNotC : OpR X (compareOp .IsNot) (rIsC true) := by
  intro pins s σ H x y v u Q I rx ry h
  obtain ⟨rfl | ⟨b, rfl⟩, q⟩ := h
  · exact op_notN pins s σ H x .non v u Q I rx ry ⟨rfl, q⟩
  · cases ry
    exact isnot_bool_gen rx ⟨.bl _, H, I, rfl, q⟩
theorem isD_ok {K : PySem.W.Frag} {H : Hp} {B : Addr → Prop} {a b : D} {u v : V} {k : Bool} (ra : RepR K H B a u) (rb : RepR K H B b v) (e : isD a b = some k) : (v = .non ∨ ∃ b, v = .bl b) ∧ decide (u = v) = k := by
  unfold isD at e
  have r' := ra.rp
  split at e
  · cases e
    rw [RepR.non_inv rb]
    refine ⟨.inl rfl, ?_⟩
    cases a <;> simp only [Rp] at r' <;> first
      | (subst r'; rfl)
      | (obtain ⟨p, vs, rfl, _⟩ := r'; rfl)
  · cases e
    rename_i b
    rw [RepR.bl_inv rb]
    refine ⟨.inr ⟨b, rfl⟩, ?_⟩
    cases a <;> simp only [Rp] at r' <;> first
      | (subst r'; simp only [isBl, V.bl.injEq]; rfl)
      | (subst r'; rfl)
      | (obtain ⟨p, vs, rfl, _⟩ := r'; rfl)
  · cases e
theorem c_is : CR X g .Is cmpIs := by
  refine ⟨_, op_isC, run_o2 fun ρ S a b c u v H Q l ra rb h q => ?_⟩
  unfold cmpIs at h
  cases e : isD a b with
  | none => rw [e] at h; cases h
  | some k =>
    rw [e] at h
    cases h
    obtain ⟨h1, h2⟩ := isD_ok ra rb e
    exact ⟨h1, by rw [h2]; exact same_q l (.bl _) q⟩
theorem c_isNot : CR X g .IsNot cmpIsNot := by
  refine ⟨_, op_isNotC, run_o2 fun ρ S a b c u v H Q l ra rb h q => ?_⟩
  unfold cmpIsNot at h
  cases e : isD a b with
  | none => rw [e] at h; cases h
  | some k =>
    rw [e] at h
    cases h
    obtain ⟨h1, h2⟩ := isD_ok ra rb e
    exact ⟨h1, by rw [h2]; exact same_q l (.bl _) q⟩
end
end Mi

namespace Mi
open PySem PySem.Spec PyProof.Rows L2

/-! ### argument lists, displays -/
def mNil : MA := fun _ S => .ok [] S
def mCons (a : ME) (r : MA) : MA := fun w S => (a w S).bind fun x S1 => (r w S1).bind fun xs S2 => .ok (x :: xs) S2
/-- all of them data -/
def pures : List W → Option (List D)
  | [] => some []
  | .d x :: r => (pures r).map (x :: ·)
  | .l _ :: _ => none
/-- all of them as they read now -/
def vws : List W → List C → Option (List D)
  | [], _ => some []
  | x :: r, S => match vw x S, vws r S with
    | some d, some ds => some (d :: ds)
    | _, _ => none
def RepRs (K : PySem.W.Frag) (H : Hp) (B : Addr → Prop) : List D → List V → Prop
  | [], vs => vs = []
  | d :: ds, vs => ∃ v r, vs = v :: r ∧ RepR K H B d v ∧ RepRs K H B ds r
def mFnA (f : List W → List C → R W) (m : MA) : ME := fun w S => (m w S).bind f
/-- a function of data -/
def oA (f : List D → Option D) (xs : List W) (S : List C) : R W := match vws xs S with
  | some ds => ans S (f ds)
  | none => .bad
def mFn (f : List D → Option D) (m : MA) : ME := mFnA (oA f) m
def tupO (xs : List W) (S : List C) : R W := match pures xs with
  | some ds => if ds.length ≤ sizeLine then .ok (.d (.tup ds)) S else .bad
  | none => .bad
def lstO (xs : List W) (S : List C) : R W := match pures xs with
  | some ds => if ds.length ≤ sizeLine then .ok (.d (.lst ds)) S else .bad
  | none => .bad
/-- a new cell -/
def newO (xs : List W) (S : List C) : R W := match pures xs with
  | some ds => if ds.length ≤ sizeLine then .ok (.l S.length) (S ++ [.lst ds]) else .bad
  | none => .bad
def mTup (m : MA) : ME := mFnA tupO m
def mLst (m : MA) : ME := mFnA lstO m
def mNew (m : MA) : ME := mFnA newO m
section
variable {g : G} {ρ : List (Option Addr)} {S : List C} {H : Hp} {σ : L2.St} {Q : VK} {w : Lw}
theorem pures_ok : ∀ {xs : List W} {ds : List D} {vs : List V}, pures xs = some ds → RepWs g.K H g.F ρ xs vs → Reps g.K H (bar g.F ρ) ds vs
  | [], ds, vs, e, r => by
    cases e
    cases r
    exact Reps.nil
  | .d x :: xs, ds, vs, e, r => by
    simp only [pures] at e
    cases h : pures xs with
    | none => rw [h] at e; cases e
    | some es =>
      rw [h] at e
      cases e
      obtain ⟨v, q, rfl, h1, h2⟩ := r
      exact Reps.cons h1 (pures_ok h h2)
  | .l _ :: _, _, _, e, _ => by cases e
theorem vws_ok (l : Rl g.K g.F ρ S H) : ∀ {xs : List W} {ds : List D} {vs : List V}, vws xs S = some ds → RepWs g.K H g.F ρ xs vs → RepRs g.K H (bar g.F ρ) ds vs
  | [], ds, vs, e, r => by
    cases e
    cases r
    exact rfl
  | x :: xs, ds, vs, e, r => by
    simp only [vws] at e
    cases h1 : vw x S with
    | none => rw [h1] at e; cases e
    | some d =>
      cases h : vws xs S with
      | none => rw [h1, h] at e; cases e
      | some es =>
        rw [h1, h] at e
        cases e
        obtain ⟨v, q, rfl, r1, r2⟩ := r
        exact ⟨v, q, rfl, vw_ok l r1 h1, vws_ok l h r2⟩
theorem le_fnA {f : List W → List C → R W} {m : MA} {r : List V → Hp → VK → Prop} (hf : ∀ ρ S xs vs σ H Q, Rl g.K g.F ρ S H → RepWs g.K H g.F ρ xs vs → Run g (rW g) (f xs S) ρ σ H Q → r vs H Q)
    (h : LE g (mFnA f m) σ H Q) : LA g m σ H fun vs H1 => r vs H1 Q := by
  obtain ⟨ρ, S, w, l, sl, h⟩ := h
  exact ⟨ρ, S, w, l, sl, Run.bnd h fun ρ1 S1 xs vs H1 e1 l1 r1 h1 => hf ρ1 S1 xs vs σ H1 Q l1 r1 h1⟩
theorem le_fn {f : List D → Option D} {m : MA} {r : List V → Hp → VK → Prop} (hf : ∀ ρ S ds c vs H (Q : VK), Rl g.K g.F ρ S H → RepRs g.K H (bar g.F ρ) ds vs → f ds = some c → (∀ ρ' H' u, Ext ρ H ρ' H' → Rl g.K g.F ρ' S H' → Rep g.K H' (bar g.F ρ') c u → Q u H') → r vs H Q)
    (h : LE g (mFn f m) σ H Q) : LA g m σ H fun vs H1 => r vs H1 Q := le_fnA (fun ρ S xs vs σ H Q l rx h => by
  unfold oA at h
  cases e1 : vws xs S with
  | none => rw [e1] at h; exact h.elim
  | some ds =>
    simp only [e1] at h
    cases e3 : f ds with
    | none => rw [e3] at h; exact h.elim
    | some c =>
      rw [e3] at h
      exact hf ρ S ds c vs H Q l (vws_ok l e1 rx) e3 h) h
end
section
variable {X : Cx} {g : G} {a b : Expr} {es : List Expr} {ma mb : ME} {m : MA} {pos : Pos}
theorem a_nil : DA X g [] mNil := PAw pa_nil fun σ H Q h => by
  obtain ⟨ρ, S, w, l, sl, h⟩ := h
  exact Run.ok_ l (show RepWs g.K H g.F ρ [] [] from rfl) h
theorem a_cons (ha : DE X g a ma) (hr : DA X g es m) (hs : starEach (a :: es) X.env = (false, eval a X.env) :: starEach es X.env := by rfl) : DA X g (a :: es) (mCons ma m) := by
  refine PAw (pa_cons ha hr hs) fun σ H Q h => ?_
  obtain ⟨ρ, S, w, l, sl, h⟩ := h
  refine ⟨ρ, S, w, l, sl, Run.bnd h fun ρ1 S1 x v H1 e1 l1 r1 h1 => ?_⟩
  refine ⟨ρ1, S1, w, l1, sl.mono e1, Run.bnd h1 fun ρ2 S2 xs vs H2 e2 l2 r2 h2 => ?_⟩
  exact Run.ok_ l2 (show RepWs g.K H2 g.F ρ2 (x :: xs) (v :: vs) from ⟨v, vs, rfl, r1.mono e2, r2⟩) h2
theorem d_tup {x1} (h : DA X g es m) : DE X g (.Tuple es x1 pos) (mTup m) := by
  refine PEw (pe_tup h) fun σ H Q => le_fnA (r := fun xs H1 Q => xs.length ≤ sizeLine ∧ ∀ p, H1 p = none → Q (.ref p) (upd H1 p (.tup xs))) fun ρ S xs vs σ H Q l r h => ?_
  unfold tupO at h
  cases e : pures xs with
  | none => rw [e] at h; exact h.elim
  | some ds =>
    simp only [e] at h
    split at h
    · rename_i hz
      have r' := pures_ok e r
      exact ⟨by rw [r'.length]; exact hz, new_tup l r' h⟩
    · exact h.elim
theorem d_lst (h : DA X g es m) : DE X g (.List es pos) (mLst m) := by
  refine PEw (pe_lst h) fun σ H Q => le_fnA (r := fun xs H1 Q => xs.length ≤ sizeLine ∧ ∀ p, H1 p = none → Q (.ref p) (upd H1 p (.lst xs))) fun ρ S xs vs σ H Q l r h => ?_
  unfold lstO at h
  cases e : pures xs with
  | none => rw [e] at h; exact h.elim
  | some ds =>
    simp only [e] at h
    split at h
    · rename_i hz
      have r' := pures_ok e r
      exact ⟨by rw [r'.length]; exact hz, new_lst l r' h⟩
    · exact h.elim
theorem d_new (h : DA X g es m) : DE X g (.List es pos) (mNew m) := by
  refine PEw (pe_lst h) fun σ H Q => le_fnA (r := fun xs H1 Q => xs.length ≤ sizeLine ∧ ∀ p, H1 p = none → Q (.ref p) (upd H1 p (.lst xs))) fun ρ S xs vs σ H Q l r h => ?_
  unfold newO at h
  cases e : pures xs with
  | none => rw [e] at h; exact h.elim
  | some ds =>
    simp only [e] at h
    split at h
    · rename_i hz
      have r' := pures_ok e r
      refine ⟨by rw [r'.length]; exact hz, fun p hp => ?_⟩
      obtain ⟨c1, c2, c3⟩ := cell_new l hp r'
      exact h _ _ _ c1 c2 c3
    · exact h.elim
end
/-! ### items, slices, lengths -/
def chr1 (c : Nat) : Str := ⟨#[c]⟩
def ixD : D → D → Option D
  | .tup xs, .int i => atI xs i
  | .lst xs, .int i => atI xs i
  | .frz xs, .int i => atI xs i
  | .str x, .int i => (atI x.cps.toList i).map fun c => .str (chr1 c)
  | _, _ => none
theorem atI_rep {K : PySem.W.Frag} {H : Hp} {B : Addr → Prop} {ds : List D} {vs : List V} {i : Int} {c : D} (r : Reps K H B ds vs) (h : atI ds i = some c) : ∃ v, atI vs i = some v ∧ Rep K H B c v := by
  unfold atI at h ⊢
  rw [r.length]
  cases e : ixN ds.length i with
  | none => rw [e] at h; cases h
  | some j =>
    rw [e] at h
    obtain ⟨v, h1, h2⟩ := r.get (i := j) h
    exact ⟨v, by simpa using h1, h2⟩
section
variable {X : Cx} {g : G} {a b : Expr} {ma mb : ME} {m : MA} {pos : Pos}
theorem one_line (c : Nat) : (chr1 c).length ≤ sizeLine := by rw [sizeLine_eq]; show (1 : Nat) ≤ 16777216; decide
theorem d_ix (ha : DE X g a ma) (hb : DE X g b mb) (hs : PlainIx b := by exact fun _ _ => rfl) (hK : g.K = X.K := by rfl) : DE X g (.Subscript a b pos) (mBin (o2 ixD) ma mb) := by
  refine PEw (pe_ix ix_seq ha hb hs) fun σ H Q => le_o2 fun ρ S a b c u v H Q l ra rb h q => ?_
  unfold ixD at h
  split at h
  · obtain ⟨p, vs, rfl, h1, r1⟩ := RepR.tup_inv ra
    obtain ⟨y, e1, e2⟩ := atI_rep r1 h
    exact .inr (.inl ⟨p, vs, _, y, rfl, RepR.int_inv rb, hK ▸ h1.of, e1, same_q l e2 q⟩)
  · obtain ⟨p, vs, rfl, h1, r1⟩ := RepR.lst_inv ra
    obtain ⟨y, e1, e2⟩ := atI_rep r1 h
    exact .inl ⟨p, vs, _, y, rfl, RepR.int_inv rb, .of h1, e1, same_q l e2 q⟩
  · obtain ⟨p, vs, rfl, h1, r1⟩ := RepR.frz_inv ra
    obtain ⟨y, e1, e2⟩ := atI_rep r1 h
    exact .inl ⟨p, vs, _, y, rfl, RepR.int_inv rb, hK ▸ h1.of, e1, same_q l e2 q⟩
  · rename_i x i
    obtain ⟨e1, e2⟩ := RepR.str_inv ra
    cases e : atI x.cps.toList i with
    | none => rw [e] at h; cases h
    | some c =>
      rw [e] at h
      cases h
      exact .inr (.inr ⟨x, i, c, e1, RepR.int_inv rb, e2, e, same_q l (.str (one_line c)) q⟩)
  · cases h
end
def cutL {α : Type} (xs : List α) (lo hi : Option Int) : List α := (xs.drop (HT.sIx xs.length 0 lo)).take (HT.sIx xs.length xs.length hi - HT.sIx xs.length 0 lo)
def slD (lo hi : Option Int) : D → Option D
  | .tup xs => some (.tup (cutL xs lo hi))
  | .lst xs => some (.lst (cutL xs lo hi))
  | .str x => some (.str (cutS x lo hi))
  | _ => none
/-- a part of a slice -/
abbrev MO := Lw → List C → R (Option Int)
def mNoPart : MO := fun _ S => .ok none S
def mPart (a : ME) : MO := fun w S => (a w S).bind fun x S1 => match vw x S1 with
  | some (.int i) => .ok (some i) S1
  | _ => .bad
def mSl (a : ME) (lo hi : MO) : ME := fun w S => (a w S).bind fun x S1 => (lo w S1).bind fun i S2 => (hi w S2).bind fun j S3 => o1 (slD i j) x S3
abbrev rO : Hp → List (Option Addr) → Option Int → Option Int → Prop := fun _ _ x v => x = v
section
variable {X : Cx} {g : G} {a : Expr} {elo ehi : Option Expr} {ma : ME} {mlo mhi : MO} {p2 pos : Pos}
abbrev DO (X : Cx) (g : G) (e : Option Expr) (m : MO) : Prop := PO X e (Lft g rO m)
theorem POw {e : Option Expr} {t t' : TO} (h : PO X e t) (i : ∀ σ H Q, t' σ H Q → t σ H Q) : PO X e t' := ⟨fun pins s σ H Q I q => h.run pins s σ H Q I (i σ H Q q)⟩
theorem o_none : DO X g none mNoPart := POw po_none fun σ H Q h => by
  obtain ⟨ρ, S, w, l, sl, h⟩ := h
  exact Run.ok_ l (show rO H ρ none none from rfl) h
theorem o_some {e : Expr} (ha : DE X g e ma) : DO X g (some e) (mPart ma) := POw (po_some ha) fun σ H Q h => by
  obtain ⟨ρ, S, w, l, sl, h⟩ := h
  refine ⟨ρ, S, w, l, sl, Run.bnd h fun ρ1 S1 x v H1 e1 l1 r1 h1 => ?_⟩
  cases e : vw x S1 with
  | none => simp only [e] at h1; exact h1.elim
  | some d =>
    cases d with
    | int i =>
      simp only [e] at h1
      exact ⟨i, RepR.int_inv (vw_ok l1 r1 e), Run.ok_ l1 (show rO H1 ρ1 (some i) (some i) from rfl) h1⟩
    | _ => simp only [e] at h1; exact h1.elim
theorem cutL_rep {K : PySem.W.Frag} {H : Hp} {B : Addr → Prop} {ds : List D} {vs : List V} (lo hi : Option Int) (r : Reps K H B ds vs) : Reps K H B (cutL ds lo hi) (cutV vs lo hi) := by
  unfold cutL cutV
  rw [r.length]
  exact (r.drop _).take _
theorem d_sl (ha : DE X g a ma) (hlo : DO X g elo mlo) (hhi : DO X g ehi mhi) (hK : g.K = X.K := by rfl) : DE X g (.Subscript a (.Slice elo ehi none p2) pos) (mSl ma mlo mhi) := by
  refine PEw (pe_slice (sl_list.or (sl_tupA.or sl_str)) ha hlo hhi) fun σ H Q h => ?_
  obtain ⟨ρ, S, w, l, sl, h⟩ := h
  refine ⟨ρ, S, w, l, sl, Run.bnd h fun ρ1 S1 x v H1 e1 l1 r1 h1 => ?_⟩
  refine ⟨ρ1, S1, w, l1, sl.mono e1, Run.bnd h1 fun ρ2 S2 i i' H2 e2 l2 r2 h2 => ?_⟩
  refine ⟨ρ2, S2, w, l2, (sl.mono e1).mono e2, Run.bnd h2 fun ρ3 S3 j j' H3 e3 l3 r3 h3 => ?_⟩
  have r2 : i = i' := r2
  have r3 : j = j' := r3
  subst r2 r3
  have rx := (r1.mono e2).mono e3
  unfold o1 at h3
  cases ev : vw x S3 with
  | none => rw [ev] at h3; exact h3.elim
  | some d =>
    simp only [ev] at h3
    have rv := vw_ok l3 rx ev
    cases d with
    | lst ds =>
      obtain ⟨p, vs, rfl, q1, q2⟩ := RepR.lst_inv rv
      exact .inl ⟨p, vs, rfl, .of q1, new_lst l3 (cutL_rep i j q2) h3⟩
    | tup ds =>
      obtain ⟨p, vs, rfl, q1, q2⟩ := RepR.tup_inv rv
      refine .inr (.inl ⟨p, vs, rfl, hK ▸ q1.of, fun z => ?_, fun _ => new_tup l3 (cutL_rep i j q2) h3⟩)
      have e : cutL ds i j = ds := by
        unfold cutL
        rw [← q2.length, z.1, z.2, List.drop_zero, Nat.sub_zero, q2.length, List.take_length]
      have h3 : Run g (rW g) (.ok (.d (.tup (cutL ds i j))) S3) ρ3 σ H3 Q := h3
      rw [e] at h3
      exact Run.ok_ l3 (show RepW g.K H3 g.F ρ3 (.d (.tup ds)) (.ref p) from .tup q1 q2) h3
    | str z =>
      obtain ⟨q1, q2⟩ := RepR.str_inv rv
      exact .inr (.inr ⟨z, q1, q2, Run.ok_ l3 (show RepW g.K H3 g.F ρ3 (.d (.str (cutS z i j))) _ from Rep.str (K := g.K) (H := H3) (B := bar g.F ρ3) (Nat.le_trans (cutS_length z i j) q2)) h3⟩)
    | _ => exact h3.elim
end
end Mi

namespace Mi
open PySem PySem.Spec PyProof.Rows L2

/-! ### built-in functions, by their arguments as they read -/
def lenF : List D → Option D
  | [.str x] => some (.int x.length)
  | [.byt x] => some (.int x.size)
  | [.tup xs] => some (.int xs.length)
  | [.lst xs] => some (.int xs.length)
  | [.frz xs] => some (.int xs.length)
  | _ => none
def intF : List D → Option D
  | [.int i] => some (.int i)
  | [.bl k] => some (.int (if k = true then 1 else 0))
  | _ => none
def max2F : List D → Option D
  | [.int i, .int j] => some (.int (max i j))
  | _ => none
def min2F : List D → Option D
  | [.int i, .int j] => some (.int (min i j))
  | _ => none
def absF : List D → Option D
  | [.int i] => some (.int (if i < 0 then -i else i))
  | _ => none
def intOf : D → Option Int
  | .int i => some i
  | _ => none
def intsOf : List D → Option (List Int)
  | [] => some []
  | d :: ds => match intOf d, intsOf ds with
    | some i, some r => some (i :: r)
    | _, _ => none
def sumF : List D → Option D
  | [.lst xs] => (intsOf xs).map fun ns => .int ns.sum
  | [.frz xs] => (intsOf xs).map fun ns => .int ns.sum
  | _ => none
def tupleF : List D → Option D
  | [.lst xs] => some (.tup xs)
  | [.frz xs] => some (.tup xs)
  | [.tup xs] => some (.tup xs)
  | _ => none
def listF : List D → Option D
  | [.lst xs] => some (.lst xs)
  | [.frz xs] => some (.lst xs)
  | [.tup xs] => some (.lst xs)
  | _ => none
/-- the type's name -/
def tyN : D → String
  | .non => "NoneType"
  | .bl _ => "bool"
  | .int _ => "int"
  | .str _ => "str"
  | .byt _ => "bytes"
  | .tup _ => "tuple"
  | .lst _ => "list"
  | .frz _ => "list"
def isTy (T : String) (n : String) : Bool := n == T || (n == "bool" && T == "int")
def isiD (T : String) (d : D) : Option D := some (.bl (isTy T (tyN d)))
section
variable {g : G} {ρ : List (Option Addr)} {S : List C} {H : Hp} {σ : L2.St} {Q : VK} {K : PySem.W.Frag} {B : Addr → Prop}
theorem RepRs.one {d : D} {vs : List V} (h : RepRs K H B [d] vs) : ∃ v, vs = [v] ∧ RepR K H B d v := by
  obtain ⟨v, r, rfl, h1, h2⟩ := h
  cases h2
  exact ⟨v, rfl, h1⟩
theorem RepRs.two {d e : D} {vs : List V} (h : RepRs K H B [d, e] vs) : ∃ v u, vs = [v, u] ∧ RepR K H B d v ∧ RepR K H B e u := by
  obtain ⟨v, r, rfl, h1, h2⟩ := h
  obtain ⟨u, rfl, h3⟩ := h2.one
  exact ⟨v, u, rfl, h1, h3⟩
theorem intsOf_rep : ∀ {ds : List D} {ns : List Int} {vs : List V}, intsOf ds = some ns → Reps K H B ds vs → vs = ns.map V.int
  | [], ns, vs, e, r => by cases e; rw [r.nil_inv]; rfl
  | d :: ds, ns, vs, e, r => by
    obtain ⟨v, q, rfl, r1, r2⟩ := r.cons_inv
    simp only [intsOf] at e
    cases h1 : intOf d with
    | none => rw [h1] at e; cases e
    | some i =>
      cases h2 : intsOf ds with
      | none => rw [h1, h2] at e; cases e
      | some m =>
        rw [h1, h2] at e
        cases e
        cases d <;> simp only [intOf] at h1 <;> cases h1
        rw [r1.int_inv, intsOf_rep h2 r2]
        rfl
theorem ints_reps : ∀ (ns : List Int), Reps K H B (ns.map D.int) (ns.map V.int)
  | [] => Reps.nil
  | i :: ns => Reps.cons (Rep.int i) (ints_reps ns)
end
section
variable {X : Cx} {g : G} {e : Expr} {es : List Expr} {m : MA} {pos p : Pos} {x : Str}
/-- the call of a built-in function: its rule by data -/
def FR (X : Cx) (g : G) (v : Value) (f : List D → Option D) : Prop := ∃ r : List V → Hp → VK → Prop, CallR X v r ∧
  ∀ ρ S ds c vs H (Q : VK), Rl g.K g.F ρ S H → RepRs g.K H (bar g.F ρ) ds vs → f ds = some c → (∀ ρ' H' u, Ext ρ H ρ' H' → Rl g.K g.F ρ' S H' → Rep g.K H' (bar g.F ρ') c u → Q u H') → r vs H Q
theorem d_fnB {id : String} {f : List D → Option D} (k : FR X g (.builtin id) f) (hm : X.mg x = none) (hv : bootBuiltins x = some (.builtin id)) (ha : DA X g (e :: es) m) (hg : Gl X x := by rfl) (hn : x ≠ "__name__" := by decide) (hdb : (x == ("__debug__" : Str)) = false := by decide)
    (he : starEach (e :: es) X.env = (false, eval e X.env) :: starEach es X.env := by rfl) (hpl : (backTo pos (starEach es X.env)).any (·.1) = false := by rfl) : DE X g (.Call (.Name x p) (e :: es) [] pos) (mFn f m) :=
  let ⟨_, c, i⟩ := k
  PEw (pe_callB c hg hm hv ha hn hdb he hpl) fun _ _ _ => le_fn i
theorem d_fnT {T : String} {f : List D → Option D} (k : FR X g (.type T) f) (hm : X.mg x = none) (hv : bootBuiltins x = some (.type T)) (ha : DA X g (e :: es) m) (hg : Gl X x := by rfl) (hn : x ≠ "__name__" := by decide) (hdb : (x == ("__debug__" : Str)) = false := by decide)
    (he : starEach (e :: es) X.env = (false, eval e X.env) :: starEach es X.env := by rfl) (hpl : (backTo pos (starEach es X.env)).any (·.1) = false := by rfl) : DE X g (.Call (.Name x p) (e :: es) [] pos) (mFn f m) :=
  let ⟨_, c, i⟩ := k
  PEw (pe_callTy c hg hm hv ha hn hdb he hpl) fun _ _ _ => le_fn i
theorem f_len (hK : g.K = X.K := by rfl) : FR X g (.builtin "len") lenF := by
  refine ⟨_, call_len, fun ρ S ds c vs H Q l r h q => ?_⟩
  unfold lenF at h
  split at h <;> first | (cases h; done) | skip
  all_goals (obtain ⟨v, rfl, r1⟩ := r.one; cases h)
  · obtain ⟨e1, e2⟩ := RepR.str_inv r1
    exact ⟨v, _, rfl, by rw [e1]; exact ⟨e2, rfl⟩, same_q l (.int _) q⟩
  · obtain ⟨e1, e2⟩ := RepR.byt_inv r1
    exact ⟨v, _, rfl, by rw [e1]; exact ⟨by rw [sizeLine_eq]; exact e2, rfl⟩, same_q l (.int _) q⟩
  all_goals
    have r' := hK ▸ r1.rp
    simp only [Rp] at r'
    obtain ⟨p, us, rfl, h1, h2⟩ := r'
  · exact ⟨_, _, rfl, .inr ⟨us, h1, h2.length.symm⟩, same_q l (.int _) q⟩
  · exact ⟨_, _, rfl, .inl ⟨us, h1, h2.length.symm⟩, same_q l (.int _) q⟩
  · exact ⟨_, _, rfl, .inl ⟨us, h1, h2.length.symm⟩, same_q l (.int _) q⟩
theorem f_int : FR X g (.type "int") intF := by
  refine ⟨_, call_int1, fun ρ S ds c vs H Q l r h q => ?_⟩
  unfold intF at h
  split at h <;> first | (cases h; done) | skip
  all_goals (obtain ⟨v, rfl, r1⟩ := r.one; cases h)
  · exact .inl ⟨_, by rw [RepR.int_inv r1], same_q l (.int _) q⟩
  · exact .inr ⟨_, by rw [RepR.bl_inv r1], same_q l (.int _) q⟩
theorem f_max2 (hc : X.calm = true := by rfl) : FR X g (.builtin "max") max2F := by
  refine ⟨_, call_max2 hc, fun ρ S ds c vs H Q l r h q => ?_⟩
  unfold max2F at h
  split at h <;> first | (cases h; done) | skip
  rename_i i j
  obtain ⟨v, u, rfl, r1, r2⟩ := r.two
  cases h
  refine ⟨i, j, by rw [RepR.int_inv r1, RepR.int_inv r2], ?_⟩
  have e : (if j > i then j else i) = max i j := by omega
  rw [e]
  exact same_q l (.int _) q
theorem f_min2 (hc : X.calm = true := by rfl) : FR X g (.builtin "min") min2F := by
  refine ⟨_, call_min2 hc, fun ρ S ds c vs H Q l r h q => ?_⟩
  unfold min2F at h
  split at h <;> first | (cases h; done) | skip
  rename_i i j
  obtain ⟨v, u, rfl, r1, r2⟩ := r.two
  cases h
  refine ⟨i, j, by rw [RepR.int_inv r1, RepR.int_inv r2], ?_⟩
  have e : (if j < i then j else i) = min i j := by omega
  rw [e]
  exact same_q l (.int _) q
theorem f_sum (hc : X.calm = true := by rfl) (hK : g.K = X.K := by rfl) : FR X g (.builtin "sum") sumF := by
  refine ⟨_, cr_sum hc, fun ρ S ds c vs H Q l r h q => ?_⟩
  have fin : ∀ (xs : List D) (p : Addr) (us : List V), (intsOf xs).map (fun ns => D.int ns.sum) = some c → SqL X.K H p us → Reps g.K H (bar g.F ρ) xs us → rSum X.K [.ref p] H Q := fun xs p us h h1 h2 => by
    cases e : intsOf xs with
    | none => rw [e] at h; cases h
    | some ns =>
      rw [e] at h
      cases h
      have := intsOf_rep e h2
      subst this
      exact ⟨p, ns, rfl, h1, same_q l (.int _) q⟩
  unfold sumF at h
  split at h <;> first | (cases h; done) | skip
  all_goals obtain ⟨v, rfl, r1⟩ := r.one
  · obtain ⟨p, us, rfl, h1, h2⟩ := RepR.lst_inv r1
    exact fin _ p us h (.of h1) h2
  · obtain ⟨p, us, rfl, h1, h2⟩ := RepR.frz_inv r1
    exact fin _ p us h (hK ▸ h1.of) h2
theorem f_tuple (hK : g.K = X.K := by rfl) : FR X g (.type "tuple") tupleF := by
  refine ⟨_, call_tuple_of, fun ρ S ds c vs H Q l r h q => ?_⟩
  unfold tupleF at h
  split at h <;> first | (cases h; done) | skip
  all_goals (obtain ⟨v, rfl, r1⟩ := r.one; cases h)
  · obtain ⟨p, us, rfl, h1, h2⟩ := RepR.lst_inv r1
    exact ⟨p, us, rfl, .inl ⟨.of h1, new_tup l h2 q⟩⟩
  · obtain ⟨p, us, rfl, h1, h2⟩ := RepR.frz_inv r1
    exact ⟨p, us, rfl, .inl ⟨hK ▸ h1.of, new_tup l h2 q⟩⟩
  · obtain ⟨p, us, rfl, h1, h2⟩ := RepR.tup_inv r1
    exact ⟨p, us, rfl, .inr ⟨hK ▸ h1.of, same_q l (.tup h1 h2) q⟩⟩
theorem f_list (hK : g.K = X.K := by rfl) : FR X g (.type "list") listF := by
  refine ⟨_, call_list_of, fun ρ S ds c vs H Q l r h q => ?_⟩
  unfold listF at h
  split at h <;> first | (cases h; done) | skip
  all_goals (obtain ⟨v, rfl, r1⟩ := r.one; cases h)
  · obtain ⟨p, us, rfl, h1, h2⟩ := RepR.lst_inv r1
    exact ⟨p, us, rfl, .inl (.of h1), new_lst l h2 q⟩
  · obtain ⟨p, us, rfl, h1, h2⟩ := RepR.frz_inv r1
    exact ⟨p, us, rfl, .inl (hK ▸ h1.of), new_lst l h2 q⟩
  · obtain ⟨p, us, rfl, h1, h2⟩ := RepR.tup_inv r1
    exact ⟨p, us, rfl, .inr (hK ▸ h1.of), new_lst l h2 q⟩
end
/-! ### isinstance(x, T), T a built-in class -/
theorem tyX_of {K : PySem.W.Frag} {H : Hp} {B : Addr → Prop} {d : D} {v : V} (r : RepR K H B d v) : TyX K H v (.type (tyN d)) := by
  have seqL : ∀ {a : Addr} {vs : List V}, SqL K H a vs → TyX K H (.ref a) (.type "list") := fun {a vs} h => by
    rcases h with (h | ⟨o, h⟩) | ⟨o, its, n, h1, h2, _⟩
    · exact .base (.lst h)
    · exact .base (.frz h)
    · exact .kList h1 h2
  have seqT : ∀ {a : Addr} {vs : List V}, SqT K H a vs → TyX K H (.ref a) (.type "tuple") := fun {a vs} h => by
    rcases h with (h | ⟨o, h⟩) | ⟨o, its, n, h1, h2, _⟩
    · exact .base (.tup h)
    · exact .fTuple h
    · exact .kTuple h1 h2
  have r' := r.rp
  cases d <;> simp only [Rp] at r'
  · subst r'; exact .base .non
  · subst r'; exact .base (.bl _)
  · subst r'; exact .base (.int _)
  · subst r'; exact .base (.str _)
  · subst r'; exact .byt _
  · obtain ⟨p, us, rfl, h1, h2⟩ := r'; exact seqT h1
  · obtain ⟨p, us, rfl, h1, h2⟩ := r'; exact seqL h1
  · obtain ⟨p, us, rfl, h1, h2⟩ := r'; exact seqL h1
def tyNames : List String := ["NoneType", "bool", "int", "str", "bytes", "tuple", "list"]
theorem tyN_mem (d : D) : tyN d ∈ tyNames := by cases d <;> simp [tyN, tyNames]
section
variable {X : Cx} {g : G} {e : Expr} {ma : ME} {pos p p2 : Pos} {x y : Str}
theorem d_isi {T : String} (hT : tyNames.all (fun n => decide (kitB n T = some (isTy T n))) = true) (hm : X.mg "isinstance" = none) (hmy : X.mg y = none) (hvy : bootBuiltins y = some (.type T)) (ha : DE X g e ma) (hg : Gl X "isinstance" := by rfl) (hgy : Gl X y := by rfl) (hny : y ≠ "__name__" := by decide) (hdy : (y == ("__debug__" : Str)) = false := by decide)
    (hv : bootBuiltins "isinstance" = some (.builtin "isinstance") := by decide +kernel) (hK : g.K = X.K := by rfl)
    (hs1 : starEach [e, .Name y p2] X.env = (false, eval e X.env) :: starEach [.Name y p2] X.env := by rfl) (hs2 : starEach [.Name y p2] X.env = (false, eval (.Name y p2) X.env) :: starEach [] X.env := by rfl) (hpl : (backTo pos (starEach [.Name y p2] X.env)).any (·.1) = false := by rfl) : DE X g (.Call (.Name "isinstance" p) [e, .Name y p2] [] pos) (mUn (o1 (isiD T)) ma) := by
  refine PEw (pe_callB call_isi hg hm hv (pa_cons ha (pa_cons (pe_bltn (v := .ty T) hgy hmy hvy rfl hny hdy) pa_nil hs2) hs1) (by decide) (by decide) hs1 hpl) fun σ H Q => le_o1 (r := fun v H Q => rIsi X.K [v, .ty T] H Q) fun ρ S a c v H Q l ra h q => ?_
  cases h
  refine ⟨v, .ty T, _, _, _, rfl, .ty T, hK ▸ tyX_of ra, kit_ty (of_decide_eq_true (List.all_eq_true.mp hT _ (tyN_mem a))), same_q l (.bl _) q⟩
end
end Mi

namespace Mi
open PySem PySem.Spec PyProof.Rows L2

/-! ### statements -/
/-- how a statement ends -/
inductive O where
  | nx (w : Lw) (S : List C) | rt (x : W) (S : List C) | bk (w : Lw) (S : List C) | ct (w : Lw) (S : List C) | exc (x : Ex) (w : Lw) (S : List C) | bad
abbrev MS := Lw → List C → O
def R.stm {α : Type} (r : R α) (w : Lw) (f : α → List C → O) : O := match r with
  | .ok a S => f a S
  | .exc x S => .exc x w S
  | .bad => .bad
def O.andThen (o : O) (f : Lw → List C → O) : O := match o with
  | .nx w S => f w S
  | o => o
def RunO (g : G) (o : O) (D : Ends) (ρ : List (Option Addr)) (σ : L2.St) (H : Hp) : Prop := match o with
  | .nx w S => ∀ ρ' H' σ', Ext ρ H ρ' H' → Rl g.K g.F ρ' S H' → Slots g.K H' g.F ρ' w σ' → D.nx σ' H'
  | .bk w S => ∀ ρ' H' σ', Ext ρ H ρ' H' → Rl g.K g.F ρ' S H' → Slots g.K H' g.F ρ' w σ' → D.bk σ' H'
  | .ct w S => ∀ ρ' H' σ', Ext ρ H ρ' H' → Rl g.K g.F ρ' S H' → Slots g.K H' g.F ρ' w σ' → D.ct σ' H'
  | .rt x S => ∀ ρ' H' v, Ext ρ H ρ' H' → Rl g.K g.F ρ' S H' → RepW g.K H' g.F ρ' x v → D.rt v H'
  | .exc x w S => ∀ ρ' H' σ' cls dd, Ext ρ H ρ' H' → Rl g.K g.F ρ' S H' → Slots g.K H' g.F ρ' w σ' → RepX g.K g.mg H' (bar g.F ρ') x cls dd → g.Wx cls dd σ' H'
  | .bad => False
def LS (g : G) (m : MS) : TS := fun D σ H => ∃ ρ S w, Rl g.K g.F ρ S H ∧ Slots g.K H g.F ρ w σ ∧ RunO g (m w S) D ρ σ H
theorem RunO.mono {g : G} {o : O} {D D' : Ends} {ρ ρ1 : List (Option Addr)} {σ σ1 : L2.St} {H H1 : Hp} (e : Ext ρ H ρ1 H1) (h : RunO g o D ρ σ H) (h1 : ∀ σ H, D.nx σ H → D'.nx σ H) (h2 : ∀ v H, D.rt v H → D'.rt v H) (h3 : ∀ σ H, D.bk σ H → D'.bk σ H) (h4 : ∀ σ H, D.ct σ H → D'.ct σ H) : RunO g o D' ρ1 σ1 H1 := by
  cases o with
  | nx w S => exact fun ρ' H' σ' e' l r => h1 _ _ (h ρ' H' σ' (e.trans e') l r)
  | bk w S => exact fun ρ' H' σ' e' l r => h3 _ _ (h ρ' H' σ' (e.trans e') l r)
  | ct w S => exact fun ρ' H' σ' e' l r => h4 _ _ (h ρ' H' σ' (e.trans e') l r)
  | rt x S => exact fun ρ' H' v e' l r => h2 _ _ (h ρ' H' v (e.trans e') l r)
  | exc x w S => exact fun ρ' H' σ' c d e' l r => h ρ' H' σ' c d (e.trans e') l r
  | bad => exact h
theorem RunO.ext {g : G} {o : O} {D : Ends} {ρ ρ1 : List (Option Addr)} {σ σ1 : L2.St} {H H1 : Hp} (e : Ext ρ H ρ1 H1) (h : RunO g o D ρ σ H) : RunO g o D ρ1 σ1 H1 := h.mono e (fun _ _ h => h) (fun _ _ h => h) (fun _ _ h => h) (fun _ _ h => h)
/-- an expression, then what is done with it -/
theorem RunO.bnd {α β : Type} {g : G} {ra : Hp → List (Option Addr) → α → β → Prop} {m : R α} {k : α → List C → O} {ρ : List (Option Addr)} {σ : L2.St} {H : Hp} {D : Ends} {w : Lw} {T : β → Hp → Prop}
    (sl : Slots g.K H g.F ρ w σ) (h : RunO g (m.stm w k) D ρ σ H) (hk : ∀ ρ1 S1 a v H1, Ext ρ H ρ1 H1 → Rl g.K g.F ρ1 S1 H1 → ra H1 ρ1 a v → RunO g (k a S1) D ρ1 σ H1 → T v H1) : Run g ra m ρ σ H T := by
  cases m with
  | ok a S1 => exact fun ρ1 H1 v e l rv => hk ρ1 S1 a v H1 e l rv (RunO.ext e h)
  | exc x S1 => exact fun ρ1 H1 c d e l r => h ρ1 H1 σ c d e l (sl.mono e) r
  | bad => exact h
theorem RunO.nx_ {g : G} {D : Ends} {ρ : List (Option Addr)} {σ σ' : L2.St} {H : Hp} {w : Lw} {S : List C} (l : Rl g.K g.F ρ S H) (sl : Slots g.K H g.F ρ w σ') (h : RunO g (.nx w S) D ρ σ H) : D.nx σ' H := h ρ H σ' (Ext.refl _ _) l sl
/-- a block: a statement, then the others -/
def sSeq (a b : MS) : MS := fun w S => (a w S).andThen b
def sNil : MS := fun w S => .nx w S
def sRet (e : ME) : MS := fun w S => (e w S).stm w fun x S1 => .rt x S1
def sRetN : MS := fun _ S => .rt (.d .non) S
def sExpr (e : ME) : MS := fun w S => (e w S).stm w fun _ S1 => .nx w S1
def sIf (t : MT) (a b : MS) : MS := fun w S => (t w S).stm w fun c S1 => if c = true then a w S1 else b w S1
def sBreak : MS := fun w S => .bk w S
def sCont : MS := fun w S => .ct w S
def sNever : MS := fun _ _ => .bad
/-- a name is stored -/
def sSet (i : Nat) (e : ME) : MS := fun w S => (e w S).stm w fun x S1 => .nx (w.set i (some x)) S1
section
variable {X : Cx} {g : G} {st : Stmt} {rest sa sb : List Stmt} {m m' : MS} {e c : Expr} {me : ME} {mt : MT} {pos : Pos}
abbrev DS (X : Cx) (g : G) (s : Stmt) (m : MS) : Prop := PS X s (LS g m)
abbrev DSs (X : Cx) (g : G) (s : List Stmt) (m : MS) : Prop := PSs X s (LS g m)
theorem s_nil : DSs X g [] sNil := PSsw pss_nil fun D σ H h => by
  obtain ⟨ρ, S, w, l, sl, h⟩ := h
  exact RunO.nx_ l sl h
theorem s_cons (h1 : DS X g st m) (h2 : DSs X g rest m') : DSs X g (st :: rest) (sSeq m m') := PSsw (pss_cons h1 h2) fun D σ H h => by
  obtain ⟨ρ, S, w, l, sl, h⟩ := h
  refine ⟨ρ, S, w, l, sl, ?_⟩
  have h : RunO g ((m w S).andThen m') D ρ σ H := h
  cases e : m w S with
  | nx w1 S1 =>
    rw [e] at h
    exact fun ρ1 H1 σ1 e1 l1 s1 => ⟨ρ1, S1, w1, l1, s1, RunO.ext e1 h⟩
  | rt x S1 => rw [e] at h; exact h
  | bk w1 S1 => rw [e] at h; exact h
  | ct w1 S1 => rw [e] at h; exact h
  | exc x w1 S1 => rw [e] at h; exact h
  | bad => rw [e] at h; exact h
theorem s_one (h1 : DS X g st m) : DSs X g [st] m := pss_one h1
theorem s_pass : DS X g (.Pass pos) sNil := PSw ps_pass fun D σ H h => by
  obtain ⟨ρ, S, w, l, sl, h⟩ := h
  exact RunO.nx_ l sl h
theorem s_break : DS X g (.Break pos) sBreak := PSw ps_break fun D σ H h => by
  obtain ⟨ρ, S, w, l, sl, h⟩ := h
  exact h ρ H σ (Ext.refl _ _) l sl
theorem s_cont : DS X g (.Continue pos) sCont := PSw ps_continue fun D σ H h => by
  obtain ⟨ρ, S, w, l, sl, h⟩ := h
  exact h ρ H σ (Ext.refl _ _) l sl
theorem s_never : DS X g st sNever := PSw ps_never fun D σ H h => by
  obtain ⟨ρ, S, w, l, sl, h⟩ := h
  exact h
theorem s_expr (he : DE X g e me) (hs : swapsWith e none pos.line X.env = pure false := by rfl) : DS X g (.Expr e pos) (sExpr me) := PSw (ps_expr he hs) fun D σ H h => by
  obtain ⟨ρ, S, w, l, sl, h⟩ := h
  exact ⟨ρ, S, w, l, sl, RunO.bnd sl h fun ρ1 S1 a v H1 e1 l1 r1 h1 => RunO.nx_ l1 (sl.mono e1) h1⟩
theorem s_ret (he : DE X g e me) : DS X g (.Return (some e) pos) (sRet me) := PSw (ps_ret he) fun D σ H h => by
  obtain ⟨ρ, S, w, l, sl, h⟩ := h
  exact ⟨ρ, S, w, l, sl, RunO.bnd sl h fun ρ1 S1 a v H1 e1 l1 r1 h1 => h1 ρ1 H1 v (Ext.refl _ _) l1 r1⟩
theorem s_retN : DS X g (.Return none pos) sRetN := PSw ps_retN fun D σ H h => by
  obtain ⟨ρ, S, w, l, sl, h⟩ := h
  exact h ρ H .non (Ext.refl _ _) l (show RepW g.K H g.F ρ (.d .non) .non from Rep.non (K := g.K) (H := H) (B := bar g.F ρ))
theorem s_if (hc : DT X g c mt) (ha : DSs X g sa m) (hb : DSs X g sb m') : DS X g (.If c sa sb pos) (sIf mt m m') := PSw (ps_if hc ha hb) fun D σ H h => by
  obtain ⟨ρ, S, w, l, sl, h⟩ := h
  refine ⟨ρ, S, w, l, sl, RunO.bnd sl h fun ρ1 S1 k v H1 e1 l1 r1 h1 => ?_⟩
  have r1 : k = v := r1
  subst r1
  cases k with
  | true => exact ⟨ρ1, S1, w, l1, sl.mono e1, h1⟩
  | false => exact ⟨ρ1, S1, w, l1, sl.mono e1, h1⟩
end
/-! ### targets -/
/-- a value is stored: what the names hold then -/
abbrev MG := W → Lw → List C → R Lw
/-- all slots but these are as they were -/
def Agr (vs : List Nat) (σ σ' : L2.St) : Prop := σ'.length = σ.length ∧ ∀ i : Nat, i ∉ vs → σ'[i]? = σ[i]?
theorem Agr.refl (σ : L2.St) : Agr [] σ σ := ⟨rfl, fun _ _ => rfl⟩
theorem Agr.trans {vs us : List Nat} {σ σ1 σ2 : L2.St} (a : Agr vs σ σ1) (b : Agr us σ1 σ2) : Agr (vs ++ us) σ σ2 :=
  ⟨b.1.trans a.1, fun i h => by rw [List.mem_append, not_or] at h; exact (b.2 i h.2).trans (a.2 i h.1)⟩
def rS (g : G) (vs : List Nat) (σ0 : L2.St) : Hp → List (Option Addr) → Lw → L2.St → Prop := fun H ρ w σ => Slots g.K H g.F ρ w σ ∧ Agr vs σ0 σ
def LG (g : G) (vs : List Nat) (m : MG) : TG := fun v σ H Q => ∃ ρ S w x, Rl g.K g.F ρ S H ∧ Slots g.K H g.F ρ w σ ∧ RepW g.K H g.F ρ x v ∧ Run g (rS g vs σ) (m x w S).nox ρ σ H Q
def gSet (i : Nat) : MG := fun x w S => .ok (w.set i (some x)) S
/-- the parts of a tuple or a list go to the targets -/
def gAll : List MG → List D → Lw → List C → R Lw
  | [], [], w, S => .ok w S
  | m :: ms, d :: ds, w, S => (m (.d d) w S).bind (gAll ms ds)
  | _, _, _, _ => .bad
def gTupM (ms : List MG) : MG := fun x w S => match vw x S with
  | some (.tup ds) => if ds.length = ms.length then gAll ms ds w S else .bad
  | _ => .bad
/-- o[i] = .. -/
def setItem (o i x : W) (S : List C) : R Unit := match o, vw i S, x with
  | .l n, some (.int k), .d y => match S[n]? with
    | some (.lst ds) => match ixN ds.length k with
      | some j => .ok () (S.set n (.lst (ds.set j y)))
      | none => .bad
    | _ => .bad
  | _, _, _ => .bad
def gSub (o i : ME) : MG := fun x w S => (o w S).bind fun p S1 => (i w S1).bind fun k S2 => (setItem p k x S2).bind fun _ S3 => .ok w S3
def sAsg (e : ME) (t : MG) : MS := fun w S => (e w S).stm w fun x S1 => (t x w S1).nox.stm w fun w1 S2 => .nx w1 S2
section
variable {X : Cx} {g : G} {e o i : Expr} {ts : List Expr} {me mo mi : ME} {mg : MG} {ms : List MG} {pos : Pos}
abbrev DG (X : Cx) (g : G) (t : Expr) (vs : List Nat) (m : MG) : Prop := PG X t (LG g vs m)
def LGs (g : G) (is : List Nat) (ms : List MG) : TGs := fun vs σ H Q => ∃ ρ S w ds, Rl g.K g.F ρ S H ∧ Slots g.K H g.F ρ w σ ∧ Reps g.K H (bar g.F ρ) ds vs ∧ Run g (rS g is σ) (gAll ms ds w S).nox ρ σ H Q
abbrev DGs (X : Cx) (g : G) (ts : List Expr) (is : List Nat) (ms : List MG) : Prop := PGs X ts (LGs g is ms)
theorem PGw {e : Expr} {t t' : TG} (h : PG X e t) (i : ∀ v σ H Q, t' v σ H Q → t v σ H Q) : PG X e t' := ⟨fun pins s σ H v u Q I r q => h.run pins s σ H v u Q I r (i v σ H Q q)⟩
theorem PGsw {e : List Expr} {t t' : TGs} (h : PGs X e t) (i : ∀ v σ H Q, t' v σ H Q → t v σ H Q) : PGs X e t' := ⟨fun pins s σ H v u Q I r q => h.run pins s σ H v u Q I r (i v σ H Q q)⟩
theorem g_set (i : Nat) {x : Str} (nd : X.N.Nodup) (hN : X.N[i]? = some x := by rfl) (hx : Loc X.env.scope x := by first | exact Or.inl rfl | exact Or.inr rfl) (hf : X.fn x = true ∨ X.env.scope.names.lookup x = some .local := by first | exact .inl rfl | exact .inr rfl | assumption) : DG X g (.Name x pos) [i] (gSet i) := PGw (pg_name (i := i) nd hN hx hf) fun v σ H Q h => by
  obtain ⟨ρ, S, w, x, l, sl, r, h⟩ := h
  exact Run.ok_ (rep := rS g [i] σ) l ⟨sl.set r, by simp, fun j hj => List.getElem?_set_ne (by simpa [eq_comm] using hj)⟩ h
theorem gs_nil : DGs X g [] [] [] := PGsw pgs_nil fun vs σ H Q h => by
  obtain ⟨ρ, S, w, ds, l, sl, r, h⟩ := h
  cases ds with
  | nil => exact ⟨r.nil_inv, Run.ok_ (rep := rS g [] σ) l ⟨sl, Agr.refl σ⟩ h⟩
  | cons d ds => exact h.elim
theorem Run.rep {α β : Type} {g : G} {rep rep' : Hp → List (Option Addr) → α → β → Prop} {r : R α} {ρ : List (Option Addr)} {σ : L2.St} {H : Hp} {Q : β → Hp → Prop} (h : Run g rep r ρ σ H Q) (i : ∀ H ρ a v, rep' H ρ a v → rep H ρ a v) : Run g rep' r ρ σ H Q := by
  cases r with
  | ok a S => exact fun ρ' H' v e l q => h ρ' H' v e l (i _ _ _ _ q)
  | exc x S => exact h
  | bad => exact h
theorem gs_cons {vs us : List Nat} (h1 : DG X g e vs mg) (h2 : DGs X g ts us ms) (hs : (assignEach (e :: ts) X.env).map (·.2) = assign e X.env :: (assignEach ts X.env).map (·.2) := by rfl) : DGs X g (e :: ts) (vs ++ us) (mg :: ms) := PGsw (pgs_cons h1 h2 hs) fun xs σ H Q h => by
  obtain ⟨ρ, S, w, ds, l, sl, r, h⟩ := h
  cases ds with
  | nil => exact h.elim
  | cons d ds =>
    obtain ⟨v, q, rfl, r1, r2⟩ := r.cons_inv
    refine ⟨v, q, rfl, ρ, S, w, .d d, l, sl, r1, ?_⟩
    have h : Run g (rS g (vs ++ us) σ) ((mg (.d d) w S).bind (gAll ms ds)).nox ρ σ H Q := h
    rw [nox_bind] at h
    exact Run.bnd (ra := rS g vs σ) h fun ρ1 S1 w1 σ1 H1 e1 l1 s1 h1 => ⟨ρ1, S1, w1, ds, l1, s1.1, Reps.mono (e1.ev g.F) _ _ r2, Run.rep (Run.st h1) fun H ρ a v q => ⟨q.1, s1.2.trans q.2⟩⟩
theorem g_tup {es : List Expr} {k : Nat} {is : List Nat} (hc : X.calm = true) (h : DGs X g es is ms) (hn : (assignEach es X.env).length = ms.length := by rfl) (hst : (assignEach es X.env).findIdx? (·.1) = none := by rfl) (hK : g.K = X.K := by rfl) :
    DG X g (.Tuple es k pos) is (gTupM ms) := PGw (pg_tup hc h hn hst) fun v σ H Q h => by
  obtain ⟨ρ, S, w, x, l, sl, r, h⟩ := h
  unfold gTupM at h
  cases e : vw x S with
  | none => rw [e] at h; exact h.elim
  | some d =>
    cases d with
    | tup ds =>
      simp only [e] at h
      split at h
      · rename_i hz
        obtain ⟨p, vs, rfl, h1, r1⟩ := RepR.tup_inv (vw_ok l r e)
        exact ⟨p, vs, rfl, hK ▸ h1.of, by rw [r1.length]; exact hz, ρ, S, w, ds, l, sl, r1, h⟩
      · exact h.elim
    | _ => simp only [e] at h; exact h.elim
theorem g_sub (ho : DE X g o mo) (hi : DE X g i mi) (ha : ∀ v, assign (.Subscript o i pos) X.env v = (do
      let ov ← holding [v] (eval o X.env)
      let iv ← holding [v, ov] (eval i X.env)
      standAt pos
      holding [v, ov, iv] (PySem.setItem ov iv v)
      release [v, ov, iv] []) := by intro _; rfl) : DG X g (.Subscript o i pos) [] (gSub mo mi) := PGw (pg_sub ho hi set_list ha) fun v σ H Q h => by
  obtain ⟨ρ, S, w, x, l, sl, r, h⟩ := h
  unfold gSub at h
  rw [nox_bind] at h
  refine ⟨ρ, S, w, l, sl, Run.of_nox (Run.bnd h fun ρ1 S1 p v1 H1 e1 l1 r1 h1 => ?_)⟩
  rw [nox_bind] at h1
  refine ⟨ρ1, S1, w, l1, sl.mono e1, Run.of_nox (Run.bnd h1 fun ρ2 S2 k v2 H2 e2 l2 r2 h2 => ?_)⟩
  have rp := r1.mono e2
  have rx := (r.mono e1).mono e2
  unfold setItem at h2
  cases p with
  | d p => exact h2.elim
  | l n =>
    cases ek : vw k S2 with
    | none => simp only [ek] at h2; exact h2.elim
    | some dk =>
      cases dk with
      | int i =>
        cases x with
        | l m => simp only [ek] at h2; exact h2.elim
        | d y =>
          simp only [ek] at h2
          cases es : S2[n]? with
          | none => simp only [es] at h2; exact h2.elim
          | some c =>
            cases c with
            | gone => simp only [es] at h2; exact h2.elim
            | lst ds =>
              simp only [es] at h2
              cases ej : ixN ds.length i with
              | none => simp only [ej] at h2; exact h2.elim
              | some j =>
                simp only [ej] at h2
                obtain ⟨a, ha⟩ := l2.live n _ es (fun z => nomatch z)
                obtain ⟨c', hc', hr⟩ := l2.cell n a ha
                rw [es] at hc'; cases hc'
                obtain ⟨vs, q1, q2⟩ := hr
                have ev := rp.2 a ha
                subst ev
                refine ⟨a, vs, i, j, rfl, RepR.int_inv (vw_ok l2 r2 ek), q1, by rw [q2.length]; exact ej, ?_⟩
                obtain ⟨c1, c2⟩ := cell_set l2 ha (q2.set rx j)
                exact h2 _ _ _ c1 c2 ⟨((sl.mono e1).mono e2).mono c1, Agr.refl σ⟩
      | _ => simp only [ek] at h2; exact h2.elim
theorem s_asg {tg : Expr} {is : List Nat} (he : DE X g e me) (hg : DG X g tg is mg) (hs : swapsWithSole [tg] e pos.line X.env = pure false := by rfl) (hw : swappedStores [tg] e X.env = pure none := by rfl)
    (h1 : (assignEach [tg] X.env).map (·.2) = [assign tg X.env] := by rfl) : DS X g (.Assign [tg] e pos) (sAsg me mg) := PSw (ps_asg he hg hs hw h1) fun D σ H h => by
  obtain ⟨ρ, S, w, l, sl, h⟩ := h
  refine ⟨ρ, S, w, l, sl, RunO.bnd sl h fun ρ1 S1 x v H1 e1 l1 r1 h1 => ?_⟩
  exact ⟨ρ1, S1, w, x, l1, sl.mono e1, r1, RunO.bnd (ra := rS g is σ) (sl.mono e1) h1 fun ρ2 S2 w2 σ2 H2 e2 l2 s2 h2 => RunO.nx_ l2 s2.1 h2⟩
theorem s_set (i : Nat) {x : Str} {pos' : Pos} (nd : X.N.Nodup) (he : DE X g e me) (hN : X.N[i]? = some x := by rfl) (hx : Loc X.env.scope x := by first | exact Or.inl rfl | exact Or.inr rfl) (hs : swapsWith e (some (.Name x pos')) pos.line X.env = pure false := by rfl)
    (hf : X.fn x = true ∨ X.env.scope.names.lookup x = some .local := by first | exact .inl rfl | exact .inr rfl | assumption) : DS X g (.Assign [.Name x pos'] e pos) (sSet i me) := PSw (ps_set nd hN hx he hs hf) fun D σ H h => by
  obtain ⟨ρ, S, w, l, sl, h⟩ := h
  exact ⟨ρ, S, w, l, sl, RunO.bnd sl h fun ρ1 S1 x v H1 e1 l1 r1 h1 => RunO.nx_ l1 ((sl.mono e1).set r1) h1⟩
end
end Mi

namespace Mi
open PySem PySem.Spec PyProof.Rows L2

/-! ### x op= e -/
theorem RepW.nonk {K : PySem.W.Frag} {H : Hp} {F : Addr → Prop} {ρ : List (Option Addr)} : RepW K H F ρ (.d .non) .non := Rep.non (K := K) (H := H) (B := bar F ρ)
def iaddD : D → D → Option D
  | .int i, .int j => some (.int (i + j))
  | .str x, .str y => if x.length + y.length ≤ sizeLine then some (.str (x ++ y)) else none
  | _, _ => none
def IR (X : Cx) (g : G) (op : Operator) (f : D → D → Option D) : Prop := ∃ r : TIp, PIp X op r ∧
  ∀ ρ S x y u v σ H Q, Rl g.K g.F ρ S H → RepW g.K H g.F ρ x u → RepW g.K H g.F ρ y v → Run g (rW g) (o2 f x y S) ρ σ H Q → r u v H Q
def sAug (i : Nat) (f : D → D → Option D) (e : ME) : MS := fun w S => match w[i]? with
  | some (some x) => (e w S).stm w fun y S1 => (o2 f x y S1).stm w fun z S2 => .nx (w.set i (some z)) S2
  | _ => .bad
section
variable {X : Cx} {g : G} {e : Expr} {me : ME} {pos : Pos}
theorem i_add : IR X g .Add iaddD := by
  refine ⟨fun x y H Q => ipI (fun i j => i + j) x y H Q ∨ (∃ i j, x = .str i ∧ y = .str j ∧ i.length + j.length ≤ sizeLine ∧ Q (.str (i ++ j)) H), ?_, run_o2 fun ρ S a b c u v H Q l ra rb h q => ?_⟩
  · intro pins s σ H x y v u Q I r1 r2 h
    rcases h with h | h
    · exact ip_add pins s σ H x y v u Q I r1 r2 h
    · exact iop_add_str pins s σ H x y v u Q I r1 r2 h
  · unfold iaddD at h
    split at h
    · cases h
      exact .inl ⟨_, _, RepR.int_inv ra, RepR.int_inv rb, same_q l (.int _) q⟩
    · split at h
      · cases h
        rename_i x y hz
        exact .inr ⟨_, _, (RepR.str_inv ra).1, (RepR.str_inv rb).1, hz, same_q l (.str (by rw [str_app_len]; exact hz)) q⟩
      · cases h
    · cases h
theorem i_sub : IR X g .Sub subD := by
  refine ⟨_, ip_sub, run_o2 fun ρ S a b c u v H Q l ra rb h q => ?_⟩
  unfold subD at h
  split at h
  · cases h
    exact ⟨_, _, RepR.int_inv ra, RepR.int_inv rb, same_q l (.int _) q⟩
  · cases h
theorem s_aug (i : Nat) {x : Str} {op : Operator} {f : D → D → Option D} {pos' : Pos} (k : IR X g op f) (nd : X.N.Nodup) (he : DE X g e me) (hN : X.N[i]? = some x := by rfl) (hx : Loc X.env.scope x := by first | exact Or.inl rfl | exact Or.inr rfl)
    (hf : X.fn x = true ∨ X.env.scope.names.lookup x = some .local := by first | exact .inl rfl | exact .inr rfl | assumption) : DS X g (.AugAssign (.Name x pos') op e pos) (sAug i f me) :=
  let ⟨_, o, im⟩ := k
  PSw (ps_aug nd hN hx he o hf) fun D σ H h => by
    obtain ⟨ρ, S, w, l, sl, h⟩ := h
    unfold sAug at h
    cases e1 : w[i]? with
    | none => rw [e1] at h; exact h.elim
    | some z =>
      cases z with
      | none => rw [e1] at h; exact h.elim
      | some z =>
        simp only [e1] at h
        obtain ⟨v, q1, q2⟩ := sl.2 i z e1
        refine ⟨v, q1, ρ, S, w, l, sl, RunO.bnd sl h fun ρ1 S1 y u H1 e1 l1 r1 h1 => ?_⟩
        exact im ρ1 S1 z y v u σ H1 _ l1 (q2.mono e1) r1 (RunO.bnd (sl.mono e1) h1 fun ρ2 S2 c t H2 e2 l2 r2 h2 => RunO.nx_ l2 (((sl.mono e1).mono e2).set r2) h2)
end
/-! ### a cell's methods -/
def cellOf (x : W) (S : List C) : Option (Nat × List D) := match x with
  | .l n => match S[n]? with
    | some (.lst ds) => some (n, ds)
    | _ => none
  | _ => none
theorem cellOf_ok {g : G} {ρ : List (Option Addr)} {S : List C} {H : Hp} {x : W} {v : V} {n : Nat} {ds : List D} (l : Rl g.K g.F ρ S H) (r : RepW g.K H g.F ρ x v) (e : cellOf x S = some (n, ds)) :
    ∃ a vs, v = .ref a ∧ ρ[n]? = some (some a) ∧ S[n]? = some (.lst ds) ∧ H a = some (.lst vs) ∧ Reps g.K H (bar g.F ρ) ds vs := by
  cases x with
  | d x => cases e
  | l m =>
    simp only [cellOf] at e
    cases hs : S[m]? with
    | none => rw [hs] at e; cases e
    | some c =>
      rw [hs] at e
      cases c with
      | gone => cases e
      | lst es =>
        cases e
        obtain ⟨a, ha⟩ := l.live n _ hs (fun z => nomatch z)
        obtain ⟨c', hc', hr⟩ := l.cell n a ha
        rw [hs] at hc'; cases hc'
        obtain ⟨vs, q1, q2⟩ := hr
        exact ⟨a, vs, r.2 a ha, ha, hs, q1, q2⟩
def appendO (x : W) (xs : List W) (S : List C) : R W := match cellOf x S, xs with
  | some (n, ds), [.d y] => if ds.length < sizeLine then .ok (.d .non) (S.set n (.lst (ds ++ [y]))) else .bad
  | _, _ => .bad
def extendO (x : W) (xs : List W) (S : List C) : R W := match cellOf x S, vws xs S with
  | some (n, ds), some [.lst es] => if ds.length + es.length ≤ sizeLine then .ok (.d .non) (S.set n (.lst (ds ++ es))) else .bad
  | _, _ => .bad
def popO (x : W) (xs : List W) (S : List C) : R W := match cellOf x S, xs with
  | some (n, ds), [] => match ds[ds.length - 1]? with
    | some d => .ok (.d d) (S.set n (.lst ds.dropLast))
    | none => .bad
  | _, _ => .bad
/-! ### the methods of built-in types -/
def mtOk (T : String) (x : W) (S : List C) : Bool := match vw x S with
  | some (.str _) => T == "str"
  | some (.lst _) => T == "list"
  | some (.frz _) => T == "list"
  | some (.int _) => T == "int"
  | _ => false
def mMth (T : String) (f : W → List W → List C → R W) (o : ME) (m : MA) : ME := fun w S => (o w S).bind fun x S1 => if mtOk T x S1 = true then (m w S1).bind fun xs S2 => f x xs S2 else .bad
/-- a method on data -/
def oM (f : D → List D → Option D) (x : W) (xs : List W) (S : List C) : R W := match vw x S, vws xs S with
  | some d, some ds => ans S (f d ds)
  | _, _ => .bad
def MR (X : Cx) (g : G) (id : String) (f : W → List W → List C → R W) : Prop := ∃ r, MtR X id r ∧
  ∀ ρ S x xs u us σ H Q, Rl g.K g.F ρ S H → RepW g.K H g.F ρ x u → RepWs g.K H g.F ρ xs us → Run g (rW g) (f x xs S) ρ σ H Q → r u us H Q
section
variable {X : Cx} {g : G} {o e : Expr} {es : List Expr} {mo me : ME} {m : MA} {apos cpos : Pos} {T id : String} {name : Str} {f : W → List W → List C → R W}
theorem mtOk_ty {ρ : List (Option Addr)} {S : List C} {H : Hp} {x : W} {v : V} (l : Rl g.K g.F ρ S H) (r : RepW g.K H g.F ρ x v) (h : mtOk T x S = true) : tyV g.K T v H := by
  unfold mtOk at h
  cases e : vw x S with
  | none => rw [e] at h; cases h
  | some d =>
    simp only [e] at h
    have rr := vw_ok l r e
    cases d <;> simp only [beq_iff_eq] at h <;> first | (cases h; done) | skip
    · subst h; rw [RepR.int_inv rr]; exact rfl
    · subst h; rw [(RepR.str_inv rr).1]; exact rfl
    · subst h
      obtain ⟨p, us, rfl, h1, h2⟩ := RepR.lst_inv rr
      exact .inl ⟨rfl, us, .of h1⟩
    · subst h
      obtain ⟨p, us, rfl, h1, h2⟩ := RepR.frz_inv rr
      exact .inl ⟨rfl, us, h1.of⟩
theorem le_mth {r : V → List V → Hp → VK → Prop} {σ : L2.St} {H : Hp} {Q : VK} (hf : ∀ ρ S x xs u us σ H Q, Rl g.K g.F ρ S H → RepW g.K H g.F ρ x u → RepWs g.K H g.F ρ xs us → Run g (rW g) (f x xs S) ρ σ H Q → r u us H Q)
    (h : LE g (mMth T f mo m) σ H Q) : tBM g.K T r (LE g mo) (LA g m) σ H Q := by
  obtain ⟨ρ, S, w, l, sl, h⟩ := h
  refine ⟨ρ, S, w, l, sl, Run.bnd h fun ρ1 S1 x u H1 e1 l1 r1 h1 => ?_⟩
  by_cases c : mtOk T x S1 = true
  · rw [if_pos c] at h1
    refine ⟨mtOk_ty l1 r1 c, ρ1, S1, w, l1, sl.mono e1, Run.bnd h1 fun ρ2 S2 xs us H2 e2 l2 r2 h2 => ?_⟩
    exact hf ρ2 S2 x xs u us σ H2 Q l2 (r1.mono e2) r2 h2
  · rw [if_neg c] at h1
    exact h1.elim
theorem d_mth (pa : PlainAttrs T) (slot : Slot T name id) (hty : typeOf (.builtin id) = pure (.type "method_descriptor")) (k : MR X g id f) (ho : DE X g o mo) (ha : DA X g (e :: es) m)
    (hbase : attributeBase o name X.env (eval o X.env) = eval o X.env := by rfl)
    (hfew : ((backTo cpos (starEach (e :: es) X.env)).all (fun x => !x.1) && (backToKw cpos (keywordEach [] X.env)).all (fun x => x.1.isSome)
      && decide ((e :: es).length + ([] : List Keyword).length + (if ([] : List Keyword).isEmpty then 0 else 1) < 30)) = true := by rfl)
    (hline : (apos.endLine == cpos.line) = true := by rfl) (hs : starEach (e :: es) X.env = (false, eval e X.env) :: starEach es X.env := by rfl) (hplain : (backTo cpos (starEach es X.env)).any (·.1) = false := by rfl) (hK : g.K = X.K := by rfl) :
    DE X g (.Call (.Attribute o name apos) (e :: es) [] cpos) (mMth T f mo m) :=
  let ⟨_, o, im⟩ := k
  PEw (pe_bm pa slot hty o ho ha hbase hfew hline hs hplain) fun _ _ _ h => hK ▸ le_mth im h
theorem d_mth0 (pa : PlainAttrs T) (slot : Slot T name id) (hty : typeOf (.builtin id) = pure (.type "method_descriptor")) (k : MR X g id f) (ho : DE X g o mo)
    (h0 : ∀ {r : V → List V → Hp → VK → Prop} {to : TE}, MtR X id r → PE X o to → PE X (.Call (.Attribute o name apos) [] [] cpos) (tBM0 X.K T r to)) (hK : g.K = X.K := by rfl) :
    DE X g (.Call (.Attribute o name apos) [] [] cpos) (mMth T f mo mNil) :=
  let ⟨_, o, im⟩ := k
  PEw (h0 o ho) fun σ H Q h => by
    have := hK ▸ le_mth im h
    obtain ⟨ρ, S, w, l, sl, h⟩ := this
    refine ⟨ρ, S, w, l, sl, Run.mono (Ext.refl _ _) h fun v H' q => ⟨q.1, ?_⟩⟩
    obtain ⟨ρ', S', w', l', sl', h'⟩ := q.2
    exact Run.ok_ (rep := rA g) l' (show RepWs g.K H' g.F ρ' [] [] from rfl) h'
theorem m_append : MR X g "list.append" appendO := by
  refine ⟨_, mt_append, fun ρ S x xs u us σ H Q l rx rxs h => ?_⟩
  unfold appendO at h
  split at h
  · rename_i n ds y e1
    split at h
    · rename_i hz
      obtain ⟨a, vs, rfl, ha, hs, q1, q2⟩ := cellOf_ok l rx e1
      obtain ⟨v, r, rfl, ry, rfl⟩ := rxs
      obtain ⟨c1, c2⟩ := cell_set l ha (q2.append (Reps.cons ry Reps.nil))
      exact ⟨a, vs, v, rfl, rfl, q1, by rw [q2.length]; exact hz, h _ _ _ c1 c2 RepW.nonk⟩
    · exact h.elim
  · exact h.elim
theorem m_extend : MR X g "list.extend" extendO := by
  refine ⟨_, mt_extend, fun ρ S x xs u us σ H Q l rx rxs h => ?_⟩
  unfold extendO at h
  split at h
  · rename_i n ds es e1 e2
    split at h
    · rename_i hz
      obtain ⟨a, vs, rfl, ha, hs, q1, q2⟩ := cellOf_ok l rx e1
      obtain ⟨v, rfl, ry⟩ := (vws_ok l e2 rxs).one
      obtain ⟨b, zs, rfl, h1, h2⟩ := RepR.lst_inv ry
      obtain ⟨c1, c2⟩ := cell_set l ha (q2.append h2)
      exact ⟨a, b, vs, zs, rfl, rfl, q1, h1, by rw [q2.length, h2.length]; exact hz, h _ _ _ c1 c2 RepW.nonk⟩
    · exact h.elim
  · exact h.elim
end
/-! ### what is walked -/
/-- the iterator J gives the items ds, one by one -/
structure XF (F : Addr → Prop) (ρ : List (Option Addr)) (H : Hp) (ρ' : List (Option Addr)) (H' : Hp) : Prop where
  keep : ∀ b o, H b = some o → ¬ bar F ρ b → H' b = some o
  len : ρ.length ≤ ρ'.length
  old : ∀ (n : Nat) a, n < ρ.length → ρ'[n]? = some (some a) → ρ[n]? = some (some a)
  new : ∀ a, some a ∈ ρ' → some a ∈ ρ ∨ H a = none ∨ F a
theorem Ext.xf {F : Addr → Prop} {ρ ρ' : List (Option Addr)} {H H' : Hp} (a : Ext ρ H ρ' H') : XF F ρ H ρ' H' := ⟨fun b o h n => a.keep b o h fun z => n (.inr z), a.len, a.old, fun c m => (a.new c m).imp id .inl⟩
theorem XF.refl (F : Addr → Prop) (ρ : List (Option Addr)) (H : Hp) : XF F ρ H ρ H := (Ext.refl ρ H).xf
theorem XF.trans {F : Addr → Prop} {ρ ρ1 ρ2 : List (Option Addr)} {H H1 H2 : Hp} (a : XF F ρ H ρ1 H1) (b : XF F ρ1 H1 ρ2 H2) : XF F ρ H ρ2 H2 where
  keep := fun c o h n => b.keep c o (a.keep c o h n) fun m => by
    rcases m with m | m
    · exact n (.inl m)
    · rcases a.new c m with q | q | q
      · exact n (.inr q)
      · rw [h] at q; cases q
      · exact n (.inl q)
  len := Nat.le_trans a.len b.len
  old := fun n c h q => a.old n c h (b.old n c (Nat.lt_of_lt_of_le h a.len) q)
  new := fun c m => by
    rcases b.new c m with q | q | q
    · exact a.new c q
    · by_cases r : bar F ρ c
      · exact r.elim (fun z => .inr (.inr z)) .inl
      · cases e : H c with
        | none => exact .inr (.inl rfl)
        | some o => rw [a.keep c o e r] at q; cases q
    · exact .inr (.inr q)
theorem XF.ev2 {ρ ρ' : List (Option Addr)} {H H' : Hp} {F F' : Addr → Prop} (a : XF F ρ H ρ' H') (hF : ∀ b, F' b → F b ∨ H b = none) : Ev H (bar F ρ) H' (bar F' ρ') where
  keep := fun b o h n => a.keep b o h n
  nb := fun b o h n m => by
    rcases m with m | m
    · rcases hF b m with q | q
      · exact n (.inl q)
      · rw [h] at q; cases q
    · rcases a.new b m with q | q | q
      · exact n (.inr q)
      · rw [h] at q; cases q
      · exact n (.inl q)
def Walks (g : G) (J : It) (ds : List D) (ρ : List (Option Addr)) (H : Hp) : Prop := ∀ F : Addr → Prop, (∀ b, F b → g.F b ∨ H b = none) → ∀ ρ' S' H', XF g.F ρ H ρ' H' → Rl g.K F ρ' S' H' → ∀ i,
  (∀ d, ds[i]? = some d → J.go i H' ∧ ∀ x H'', J.yld i H' x H'' → Ext ρ' H' ρ' H'' ∧ Rl g.K F ρ' S' H'' ∧ Rep g.K H'' (bar F ρ') d x) ∧ (ds.length ≤ i → J.stop i H')
theorem Ext.ev2 {ρ ρ' : List (Option Addr)} {H H' : Hp} (a : Ext ρ H ρ' H') {F F' : Addr → Prop} (hF : ∀ b, F' b → F b ∨ H b = none) : Ev H (bar F ρ) H' (bar F' ρ') where
  keep := fun b o h n => a.keep b o h fun m => n (.inr m)
  nb := fun b o h n m => by
    rcases m with m | m
    · rcases hF b m with q | q
      · exact n (.inl q)
      · rw [h] at q; cases q
    · rcases a.new b m with q | q
      · exact n (.inr q)
      · rw [h] at q; cases q
abbrev MI := Lw → List C → R (List D)
abbrev rI (g : G) : Hp → List (Option Addr) → List D → It → Prop := fun H ρ ds J => Walks g J ds ρ H
abbrev LI (g : G) (m : MI) : TI := Lft g (rI g) m
abbrev DI (X : Cx) (g : G) (tg e : Expr) (m : MI) : Prop := PI X tg e (LI g m)
/-- a text's signs -/
def signsD (x : Str) : List D := x.cps.toList.map fun c => D.str (chr1 c)
def mItems (a : ME) : MI := fun w S => (a w S).bind fun x S1 => match x with
  | .d (.lst ds) => .ok ds S1
  | .d (.tup ds) => .ok ds S1
  | .d (.frz ds) => .ok ds S1
  | .d (.str x) => .ok (signsD x) S1
  | _ => .bad
def rangeD (lo : Int) (n : Nat) : List D := (List.range n).map fun (i : Nat) => D.int (lo + i)
def mRng1 (m : MA) : MI := fun w S => (m w S).bind fun xs S1 => match xs with
  | [.d (.int j)] => if -(2 ^ 62) ≤ j ∧ j < 2 ^ 62 then .ok (rangeD 0 j.toNat) S1 else .bad
  | _ => .bad
def mRng2 (m : MA) : MI := fun w S => (m w S).bind fun xs S1 => match xs with
  | [.d (.int i), .d (.int j)] => if -(2 ^ 62) ≤ i ∧ i < 2 ^ 62 ∧ -(2 ^ 62) ≤ j ∧ j < 2 ^ 62 then .ok (rangeD i (j - i).toNat) S1 else .bad
  | _ => .bad
section
variable {X : Cx} {g : G} {tg e : Expr} {es : List Expr} {me : ME} {m : MA} {p pos : Pos}
theorem PIw {t t' : TI} (h : PI X tg e t) (i : ∀ σ H R, t' σ H R → t σ H R) : PI X tg e t' := ⟨fun pins s σ H R I q => h.run pins s σ H R I (i σ H R q)⟩
theorem pi_or {t t' : TI} (h : PI X tg e t) (h' : PI X tg e t') : PI X tg e (fun σ H R => t σ H R ∨ t' σ H R) := ⟨fun pins s σ H R I q => q.elim (h.run pins s σ H R I) (h'.run pins s σ H R I)⟩
theorem walks_list {a : Addr} {ds : List D} {vs : List V} {ρ : List (Option Addr)} {H : Hp} (h : SqLB g.K H (bar g.F ρ) a vs) (r : Reps g.K H (bar g.F ρ) ds vs) : Walks g (Itl g.K a) ds ρ H := by
  intro F hF ρ' S' H' e l i
  have ev := e.ev2 hF
  have h' := (h.mono ev).of
  have r' := Reps.mono ev _ _ r
  refine ⟨fun d hd => ?_, fun hi => ⟨vs, h', by rw [r.length]; exact hi⟩⟩
  obtain ⟨v, h1, h2⟩ := r'.get hd
  refine ⟨⟨vs, v, h', h1⟩, fun x H'' y => ?_⟩
  obtain ⟨rfl, y⟩ := y
  have z := y vs h'
  rw [h1] at z
  cases z
  exact ⟨Ext.refl _ _, l, h2⟩
theorem walks_tup {a : Addr} {ds : List D} {vs : List V} {ρ : List (Option Addr)} {H : Hp} (h : SqTB g.K H (bar g.F ρ) a vs) (r : Reps g.K H (bar g.F ρ) ds vs) : Walks g (Itt g.K a) ds ρ H := by
  intro F hF ρ' S' H' e l i
  have ev := e.ev2 hF
  have h' := (h.mono ev).of
  have r' := Reps.mono ev _ _ r
  refine ⟨fun d hd => ?_, fun hi => ⟨vs, h', by rw [r.length]; exact hi⟩⟩
  obtain ⟨v, h1, h2⟩ := r'.get hd
  refine ⟨⟨vs, v, h', h1⟩, fun x H'' y => ?_⟩
  obtain ⟨rfl, y⟩ := y
  have z := y vs h'
  rw [h1] at z
  cases z
  exact ⟨Ext.refl _ _, l, h2⟩
theorem walks_range {lo : Int} {n : Nat} {ρ : List (Option Addr)} {H : Hp} : Walks g (Itr lo n) (rangeD lo n) ρ H := by
  intro F hF ρ' S' H' e l i
  refine ⟨fun d hd => ?_, fun hi => by show n ≤ i; simpa [rangeD] using hi⟩
  unfold rangeD at hd
  rw [List.getElem?_map] at hd
  by_cases hi : i < n
  · rw [List.getElem?_range hi] at hd
    cases hd
    refine ⟨hi, fun x H'' y => ?_⟩
    obtain ⟨rfl, rfl⟩ := y
    exact ⟨Ext.refl _ _, l, Rep.int (K := g.K) (H := H'') (B := bar F ρ') _⟩
  · rw [List.getElem?_eq_none (by simpa using hi)] at hd
    cases hd
theorem walks_str {x : Str} {ρ : List (Option Addr)} {H : Hp} : Walks g (Its x) (signsD x) ρ H := by
  intro F hF ρ' S' H' e l i
  refine ⟨fun d hd => ?_, fun hi => by show x.cps.size ≤ i; simpa [signsD] using hi⟩
  unfold signsD at hd
  rw [List.getElem?_map, Array.getElem?_toList] at hd
  cases q : x.cps[i]? with
  | none => rw [q] at hd; cases hd
  | some c =>
    rw [q] at hd
    cases hd
    refine ⟨(Array.getElem?_eq_some_iff.mp q).1, fun y H'' z => ?_⟩
    obtain ⟨rfl, c', hc, rfl⟩ := z
    rw [q] at hc
    cases hc
    exact ⟨Ext.refl _ _, l, Rep.str (K := g.K) (H := H'') (B := bar F ρ') (show 1 ≤ sizeLine by rw [sizeLine_eq]; decide)⟩
theorem i_items (he : DE X g e me) (hK : g.K = X.K := by rfl) : DI X g tg e (mItems me) := by
  refine PIw (pi_or (pi_or (pi_list he) (pi_tup he)) (pi_str he)) fun σ H R h => ?_
  obtain ⟨ρ, S, w, l, sl, h⟩ := h
  have h : Run g (rI g) ((me w S).bind _) ρ σ H R := h
  cases e1 : me w S with
  | bad => rw [e1] at h; exact h.elim
  | exc x S1 =>
    rw [e1] at h
    exact .inl (.inl ⟨ρ, S, w, l, sl, by rw [e1]; exact h⟩)
  | ok x S1 =>
    rw [e1] at h
    cases x with
    | l n => exact h.elim
    | d x =>
      cases x with
      | lst ds =>
        refine .inl (.inl ⟨ρ, S, w, l, sl, ?_⟩)
        rw [e1]
        intro ρ1 H1 v ex l1 r1
        obtain ⟨a, vs, rfl, q1, q2, q3⟩ := Rep.lst_inv (K := g.K) (H := H1) (B := bar g.F ρ1) r1
        exact ⟨a, rfl, ⟨vs, .of q1⟩, by rw [← hK]; exact h ρ1 H1 _ ex l1 (walks_list (.inl ⟨.inl q1, q2⟩) q3)⟩
      | frz ds =>
        refine .inl (.inl ⟨ρ, S, w, l, sl, ?_⟩)
        rw [e1]
        intro ρ1 H1 v ex l1 r1
        obtain ⟨a, vs, rfl, q1, q3⟩ := Rep.frz_inv (K := g.K) (H := H1) (B := bar g.F ρ1) r1
        exact ⟨a, rfl, ⟨vs, hK ▸ q1.of⟩, by rw [← hK]; exact h ρ1 H1 _ ex l1 (walks_list q1 q3)⟩
      | tup ds =>
        refine .inl (.inr ⟨ρ, S, w, l, sl, ?_⟩)
        rw [e1]
        intro ρ1 H1 v ex l1 r1
        obtain ⟨a, vs, rfl, q1, q3⟩ := Rep.tup_inv (K := g.K) (H := H1) (B := bar g.F ρ1) r1
        exact ⟨a, rfl, ⟨vs, hK ▸ q1.of⟩, by rw [← hK]; exact h ρ1 H1 _ ex l1 (walks_tup q1 q3)⟩
      | str x =>
        refine .inr ⟨ρ, S, w, l, sl, ?_⟩
        rw [e1]
        intro ρ1 H1 v ex l1 r1
        exact ⟨x, (RepR.str_inv (K := g.K) (H := H1) (B := bar g.F ρ1) r1).1, h ρ1 H1 _ ex l1 walks_str⟩
      | _ => exact h.elim
theorem i_rng1 (hm : X.mg "range" = none) (ha : DA X g (e :: es) m)
    (hp : ∀ {ta : TA}, PA X (e :: es) ta → PI X tg (.Call (.Name "range" p) (e :: es) [] pos) (iRng1 ta)) : DI X g tg (.Call (.Name "range" p) (e :: es) [] pos) (mRng1 m) := by
  refine PIw (hp ha) fun σ H R h => ?_
  obtain ⟨ρ, S, w, l, sl, h⟩ := h
  refine ⟨ρ, S, w, l, sl, Run.bnd h fun ρ1 S1 xs vs H1 e1 l1 r1 h1 => ?_⟩
  split at h1
  · rename_i j
    split at h1
    · rename_i hz
      obtain ⟨v, r, rfl, q1, rfl⟩ := r1
      exact ⟨j, by rw [Rep.int_inv (K := g.K) (H := H1) (B := bar g.F ρ1) q1], hz.1, hz.2, Run.ok_ (rep := rI g) l1 walks_range h1⟩
    · exact h1.elim
  · exact h1.elim
theorem i_rng2 (hm : X.mg "range" = none) (ha : DA X g (e :: es) m)
    (hp : ∀ {ta : TA}, PA X (e :: es) ta → PI X tg (.Call (.Name "range" p) (e :: es) [] pos) (iRng2 ta)) : DI X g tg (.Call (.Name "range" p) (e :: es) [] pos) (mRng2 m) := by
  refine PIw (hp ha) fun σ H R h => ?_
  obtain ⟨ρ, S, w, l, sl, h⟩ := h
  refine ⟨ρ, S, w, l, sl, Run.bnd h fun ρ1 S1 xs vs H1 e1 l1 r1 h1 => ?_⟩
  split at h1
  · rename_i i j
    split at h1
    · rename_i hz
      obtain ⟨v, r, rfl, q1, u, r', rfl, q2, rfl⟩ := r1
      exact ⟨i, j, by rw [Rep.int_inv (K := g.K) (H := H1) (B := bar g.F ρ1) q1, Rep.int_inv (K := g.K) (H := H1) (B := bar g.F ρ1) q2], hz, Run.ok_ (rep := rI g) l1 walks_range h1⟩
    · exact h1.elim
  · exact h1.elim
end
end Mi

namespace Mi
open PySem PySem.Spec PyProof.Rows L2

/-! ### forgetting names, freezing a cell -/
def forget : List Nat → Lw → Lw
  | [], w => w
  | i :: is, w => (forget is w).set i none
theorem forget_len (is : List Nat) (w : Lw) : (forget is w).length = w.length := by
  induction is with
  | nil => rfl
  | cons i is ih => simp [forget, ih]
theorem forget_get {is : List Nat} {w : Lw} {j : Nat} {x : W} (h : (forget is w)[j]? = some (some x)) : w[j]? = some (some x) := by
  induction is with
  | nil => exact h
  | cons i is ih =>
    simp only [forget] at h
    by_cases e : i = j
    · subst e
      by_cases hl : i < (forget is w).length
      · rw [List.getElem?_set_self hl] at h; cases h
      · rw [List.getElem?_eq_none (by simpa using hl)] at h; cases h
    · rw [List.getElem?_set_ne e] at h
      exact ih h
theorem Slots.forget {K : PySem.W.Frag} {H : Hp} {F : Addr → Prop} {ρ : List (Option Addr)} {w : Lw} {σ : L2.St} (h : Slots K H F ρ w σ) (is : List Nat) : Slots K H F ρ (forget is w) σ :=
  ⟨by rw [forget_len]; exact h.1, fun i x e => h.2 i x (forget_get e)⟩
/-- slot i holds a cell that is changed no more: its data -/
def frzW (i : Nat) (w : Lw) (S : List C) : Option (Lw × List C) := match w[i]? with
  | some (some (.l n)) => match S[n]? with
    | some (.lst ds) => some (w.set i (some (.d (.lst ds))), S.set n .gone)
    | _ => none
  | some (some (.d x)) => some (w, S)
  | _ => none
def sFrz (i : Nat) : MS := fun w S => match frzW i w S with
  | some (w1, S1) => .nx w1 S1
  | none => .bad
def sForget (is : List Nat) : MS := fun w S => .nx (forget is w) S
theorem frz_ok {g : G} {ρ : List (Option Addr)} {S : List C} {H : Hp} {n : Nat} {a : Addr} {ds : List D} (l : Rl g.K g.F ρ S H) (ha : ρ[n]? = some (some a)) (hs : S[n]? = some (.lst ds)) :
    Ext ρ H (ρ.set n none) H ∧ Rl g.K g.F (ρ.set n none) (S.set n .gone) H ∧ Rep g.K H (bar g.F (ρ.set n none)) (.lst ds) (.ref a) := by
  have nF := l.sep n a ha
  have get : ∀ (m : Nat) b, (ρ.set n none)[m]? = some (some b) → m ≠ n ∧ ρ[m]? = some (some b) := fun m b h => by
    by_cases e : n = m
    · subst e
      by_cases hl : n < ρ.length
      · rw [List.getElem?_set_self hl] at h; cases h
      · rw [List.getElem?_eq_none (by simpa using hl)] at h; cases h
    · rw [List.getElem?_set_ne e] at h
      exact ⟨fun z => e z.symm, h⟩
  have ex : Ext ρ H (ρ.set n none) H := ⟨fun _ _ h _ => h, by simp, fun m b _ h => (get m b h).2, fun b h => by
    obtain ⟨m, hm⟩ := List.getElem?_of_mem h
    exact .inl (List.mem_of_getElem? (get m b hm).2)⟩
  have ev := ex.ev g.F
  have na : ¬ bar g.F (ρ.set n none) a := fun z => by
    rcases z with z | z
    · exact nF z
    · obtain ⟨m, hm⟩ := List.getElem?_of_mem z
      obtain ⟨h1, h2⟩ := get m a hm
      exact h1 (l.inj m n a h2 ha)
  obtain ⟨c, hc, hr⟩ := l.cell n a ha
  rw [hs] at hc; cases hc
  obtain ⟨vs, q1, q2⟩ := hr
  refine ⟨ex, ⟨by simp [l.len], fun m b h => ?_, fun m c h hc => ?_, fun m k b h1 h2 => l.inj m k b (get m b h1).2 (get k b h2).2, l.dom, fun m b h => l.sep m b (get m b h).2⟩, .lst q1 na (Reps.mono ev _ _ q2)⟩
  · obtain ⟨h1, h2⟩ := get m b h
    obtain ⟨c, h3, h4⟩ := l.cell m b h2
    exact ⟨c, by rw [List.getElem?_set_ne (Ne.symm h1)]; exact h3, h4.mono ev fun _ q => q⟩
  · by_cases e : n = m
    · subst e
      have hl : n < S.length := (List.getElem?_eq_some_iff.mp hs).1
      rw [List.getElem?_set_self hl] at h
      cases h
      exact absurd rfl hc
    · rw [List.getElem?_set_ne e] at h
      obtain ⟨b, hb⟩ := l.live m c h hc
      exact ⟨b, by rw [List.getElem?_set_ne e]; exact hb⟩
section
variable {X : Cx} {g : G} {st : Stmt} {rest body : List Stmt} {m : MS} {e c tg iter : Expr} {me : ME} {mt : MT} {mi : MI} {mg : MG} {is fg : List Nat} {pos : Pos}
/-- ahead of a block: slot i is frozen -/
theorem s_frz (i : Nat) (h : DSs X g rest m) : DSs X g rest (sSeq (sFrz i) m) := PSsw h fun D σ H h => by
  obtain ⟨ρ, S, w, l, sl, h⟩ := h
  have h : RunO g ((sFrz i w S).andThen m) D ρ σ H := h
  unfold sFrz frzW at h
  cases e1 : w[i]? with
  | none => simp only [e1] at h; exact h.elim
  | some z =>
    cases z with
    | none => simp only [e1] at h; exact h.elim
    | some z =>
      obtain ⟨v, q1, q2⟩ := sl.2 i z e1
      cases z with
      | d x =>
        simp only [e1] at h
        exact ⟨ρ, S, w, l, sl, h⟩
      | l n =>
        simp only [e1] at h
        cases hs : S[n]? with
        | none => simp only [hs] at h; exact h.elim
        | some c =>
          cases c with
          | gone => simp only [hs] at h; exact h.elim
          | lst ds =>
            simp only [hs] at h
            obtain ⟨a, ha⟩ := l.live n _ hs (fun z => nomatch z)
            obtain ⟨ex, l', r'⟩ := frz_ok l ha hs
            have := q2.2 a ha
            subst this
            refine ⟨_, _, _, l', ?_, RunO.ext ex h⟩
            have sl' := sl.mono ex
            refine ⟨by simp [sl.1], fun j x ej => ?_⟩
            by_cases hj : i = j
            · subst hj
              have hl : i < w.length := (List.getElem?_eq_some_iff.mp e1).1
              rw [List.getElem?_set_self hl] at ej
              cases ej
              exact ⟨_, q1, r'⟩
            · rw [List.getElem?_set_ne hj] at ej
              exact sl'.2 j x ej
theorem s_forget (is : List Nat) (h : DSs X g rest m) : DSs X g rest (sSeq (sForget is) m) := PSsw h fun D σ H h => by
  obtain ⟨ρ, S, w, l, sl, h⟩ := h
  exact ⟨ρ, S, _, l, sl.forget is, h⟩
/-! ### for -/
end
/-- a turn's end: on to the next -/
def forD (t : MG) (fg : List Nat) (body : MS) : List D → MS
  | [], w, S => .nx w S
  | d :: ds, w, S => (t (.d d) w S).nox.stm w fun w1 S1 => match body w1 S1 with
    | .nx w2 S2 => forD t fg body ds (forget fg w2) S2
    | .ct w2 S2 => forD t fg body ds (forget fg w2) S2
    | .bk w2 S2 => .nx (forget fg w2) S2
    | o => o
def sFor (mi : MI) (t : MG) (fg : List Nat) (body : MS) : MS := fun w S => (mi w S).stm w fun ds S1 => forD t fg body ds w S1
open Classical in
def whileN (c : MT) (fg : List Nat) (body : MS) : Nat → MS
  | 0, _, _ => .bad
  | n + 1, w, S => (c w S).stm w fun k S1 => if k = true then match body w S1 with
    | .nx w2 S2 => whileN c fg body n (forget fg w2) S2
    | .ct w2 S2 => whileN c fg body n (forget fg w2) S2
    | .bk w2 S2 => .nx (forget fg w2) S2
    | o => o
    else .nx w S1
theorem whileN_more {c : MT} {fg : List Nat} {body : MS} : ∀ {n : Nat} {w : Lw} {S : List C}, whileN c fg body n w S ≠ .bad → whileN c fg body (n + 1) w S = whileN c fg body n w S
  | 0, _, _, h => absurd rfl h
  | n + 1, w, S, h => by
    have step : ∀ k, whileN c fg body (k + 1) w S = (c w S).stm w fun b S1 => if b = true then match body w S1 with
      | .nx w2 S2 => whileN c fg body k (forget fg w2) S2
      | .ct w2 S2 => whileN c fg body k (forget fg w2) S2
      | .bk w2 S2 => .nx (forget fg w2) S2
      | o => o
      else .nx w S1 := fun _ => rfl
    rw [step n] at h
    rw [step (n + 1), step n]
    cases e : c w S with
    | exc x S1 => rfl
    | bad => rfl
    | ok k S1 =>
      rw [e] at h
      cases k with
      | false => rfl
      | true =>
        simp only [R.stm, if_true] at h ⊢
        cases e2 : body w S1 with
        | nx w2 S2 => simp only [e2] at h ⊢; exact whileN_more h
        | ct w2 S2 => simp only [e2] at h ⊢; exact whileN_more h
        | _ => rfl
theorem whileN_le {c : MT} {fg : List Nat} {body : MS} {n : Nat} {w : Lw} {S : List C} (h : whileN c fg body n w S ≠ .bad) : ∀ k, whileN c fg body (n + k) w S = whileN c fg body n w S
  | 0 => rfl
  | k + 1 => by
    have ih := whileN_le h k
    show whileN c fg body (n + k + 1) w S = _
    rw [whileN_more (by rw [ih]; exact h), ih]
open Classical in
noncomputable def sWhile (c : MT) (fg : List Nat) (body : MS) : MS := fun w S => if h : ∃ n, whileN c fg body n w S ≠ .bad then whileN c fg body (choose h) w S else .bad
theorem sWhile_of {c : MT} {fg : List Nat} {body : MS} {w : Lw} {S : List C} {n : Nat} (h : whileN c fg body n w S ≠ .bad) : sWhile c fg body w S = whileN c fg body n w S := by
  have ex : ∃ n, whileN c fg body n w S ≠ .bad := ⟨n, h⟩
  unfold sWhile
  rw [dif_pos ex]
  have h2 := Classical.choose_spec ex
  generalize Classical.choose ex = k at h2
  rw [← whileN_le h2 n, Nat.add_comm, whileN_le h k]
theorem sWhile_bad {c : MT} {fg : List Nat} {body : MS} {w : Lw} {S : List C} (h : ∀ n, whileN c fg body n w S = .bad) : sWhile c fg body w S = .bad := by
  unfold sWhile
  rw [dif_neg (fun ⟨n, hn⟩ => hn (h n))]
/-- one turn -/
theorem sWhile_eq (c : MT) (fg : List Nat) (body : MS) (w : Lw) (S : List C) : sWhile c fg body w S = (c w S).stm w fun k S1 => if k = true then match body w S1 with
    | .nx w2 S2 => sWhile c fg body (forget fg w2) S2
    | .ct w2 S2 => sWhile c fg body (forget fg w2) S2
    | .bk w2 S2 => .nx (forget fg w2) S2
    | o => o
    else .nx w S1 := by
  have step : ∀ k, whileN c fg body (k + 1) w S = (c w S).stm w fun b S1 => if b = true then match body w S1 with
      | .nx w2 S2 => whileN c fg body k (forget fg w2) S2
      | .ct w2 S2 => whileN c fg body k (forget fg w2) S2
      | .bk w2 S2 => .nx (forget fg w2) S2
      | o => o
      else .nx w S1 := fun _ => rfl
  have fin : ∀ r, (∀ k, whileN c fg body (k + 1) w S = r) → sWhile c fg body w S = r := fun r hr => by
    by_cases z : r = .bad
    · subst z
      refine sWhile_bad fun n => ?_
      cases n with
      | zero => rfl
      | succ n => exact hr n
    · rw [sWhile_of (n := 1) (by rw [hr 0]; exact z), hr 0]
  have go : ∀ (w2 : Lw) (S2 : List C), (∀ k, whileN c fg body (k + 1) w S = whileN c fg body k w2 S2) → sWhile c fg body w S = sWhile c fg body w2 S2 := fun w2 S2 hr => by
    by_cases z : ∀ n, whileN c fg body n w2 S2 = .bad
    · rw [sWhile_bad z]
      refine sWhile_bad fun n => ?_
      cases n with
      | zero => rfl
      | succ n => rw [hr n]; exact z n
    · obtain ⟨n, hn⟩ := Classical.not_forall.mp z
      rw [sWhile_of hn, sWhile_of (n := n + 1) (by rw [hr n]; exact hn), hr n]
  cases e : c w S with
  | exc x S1 => exact fin _ fun k => by rw [step k, e]; rfl
  | bad => exact fin _ fun k => by rw [step k, e]; rfl
  | ok k S1 =>
    cases k with
    | false => exact fin _ fun k => by rw [step k, e]; rfl
    | true =>
      simp only [R.stm, if_true]
      cases e2 : body w S1 with
      | nx w2 S2 => exact go _ _ fun k => by rw [step k, e]; simp only [R.stm, if_true, e2]
      | ct w2 S2 => exact go _ _ fun k => by rw [step k, e]; simp only [R.stm, if_true, e2]
      | _ => exact fin _ fun k => by rw [step k, e]; simp only [R.stm, if_true, e2]
section
variable {X : Cx} {g : G} {st : Stmt} {rest body : List Stmt} {m : MS} {e c tg iter : Expr} {me : ME} {mt : MT} {mi : MI} {mg : MG} {is fg : List Nat} {pos : Pos}
theorem RunO.turn {D : Ends} {N : L2.St → Hp → Prop} {ρ : List (Option Addr)} {σ : L2.St} {H : Hp} {o : O} {k : Lw → List C → O}
    (h : RunO g (match o with
      | .nx w2 S2 => k (forget fg w2) S2
      | .ct w2 S2 => k (forget fg w2) S2
      | .bk w2 S2 => .nx (forget fg w2) S2
      | o => o) D ρ σ H) (hN : ∀ ρ1 S1 w1 H1 σ1, Ext ρ H ρ1 H1 → Rl g.K g.F ρ1 S1 H1 → Slots g.K H1 g.F ρ1 w1 σ1 → RunO g (k w1 S1) D ρ1 σ1 H1 → N σ1 H1) :
    RunO g o { D with nx := N, ct := N, bk := D.nx } ρ σ H := by
  cases o with
  | nx w2 S2 => exact fun ρ1 H1 σ1 e l s => hN ρ1 S2 _ H1 σ1 e l (s.forget fg) (RunO.ext e h)
  | ct w2 S2 => exact fun ρ1 H1 σ1 e l s => hN ρ1 S2 _ H1 σ1 e l (s.forget fg) (RunO.ext e h)
  | bk w2 S2 => exact fun ρ1 H1 σ1 e l s => h ρ1 H1 σ1 e l (s.forget fg)
  | rt x S2 => exact h
  | exc x w2 S2 => exact h
  | bad => exact h
theorem s_for (hp : PassesOwn (model X.prog X.w) X.A X.env X.xe) (hc : X.calm = true) (hi : DI X g tg iter mi) (hg : DG X g tg is mg) (hb : DSs X g body m) (hs : ∀ x, foldedSetIterable iter X.env x = pure x := by intro _; rfl) :
    DS X g (.For tg iter body [] pos) (sFor mi mg fg m) := PSw (ps_for hp hc hi hg hb hs) fun D σ H h => by
  obtain ⟨ρ, S, w, l, sl, h⟩ := h
  refine ⟨ρ, S, w, l, sl, RunO.bnd sl h fun ρ1 S1 ds J H1 e1 l1 r1 h1 => ?_⟩
  refine ⟨fun i k σ' H' => ∃ ρ' S' w', Rl g.K g.F ρ' S' H' ∧ Slots g.K H' g.F ρ' w' σ' ∧ Ext ρ1 H1 ρ' H' ∧ k = ds.length - i ∧ RunO g (forD mg fg m (ds.drop i) w' S') D ρ' σ' H', ⟨ds.length, ρ1, S1, w, l1, sl.mono e1, Ext.refl _ _, rfl, h1⟩, ?_⟩
  rintro i k σ' H' ⟨ρ', S', w', l', sl', ex', rfl, h'⟩
  obtain ⟨go, stop⟩ := r1 g.F (fun _ h => .inl h) ρ' S' H' ex'.xf l' i
  by_cases hi : i < ds.length
  · have ed : ds[i]? = some ds[i] := List.getElem?_eq_getElem hi
    obtain ⟨g1, g2⟩ := go _ ed
    rw [List.drop_eq_getElem_cons hi] at h'
    refine .inr ⟨g1, fun σ2 H2 => ∃ ρ2 S2 w2, Rl g.K g.F ρ2 S2 H2 ∧ Slots g.K H2 g.F ρ2 w2 σ2 ∧ Ext ρ1 H1 ρ2 H2 ∧ RunO g (forD mg fg m (ds.drop (i + 1)) w2 S2) D ρ2 σ2 H2, ?_, fun x H2 y => ?_⟩
    · rintro σ2 H2 ⟨ρ2, S2, w2, q1, q2, q3, q4⟩
      exact ⟨ds.length - (i + 1), by omega, ρ2, S2, w2, q1, q2, q3, rfl, q4⟩
    · obtain ⟨y1, y2, y3⟩ := g2 x H2 y
      have sl2 := sl'.mono y1
      refine ⟨ρ', S', w', .d ds[i], y2, sl2, y3, ?_⟩
      have h2 : RunO g ((mg (.d ds[i]) w' S').nox.stm w' _) D ρ' σ' H' := h'
      refine RunO.bnd (ra := rS g is σ') sl2 (RunO.ext (σ1 := σ') y1 h2) fun ρ3 S3 w3 σ3 H3 e3 l3 s3 h3 => ?_
      refine ⟨ρ3, S3, w3, l3, s3.1, RunO.turn (k := forD mg fg m (ds.drop (i + 1))) h3 fun ρ4 S4 w4 H4 σ4 e4 l4 s4 h4 => ?_⟩
      exact ⟨ρ4, S4, w4, l4, s4, ((ex'.trans y1).trans e3).trans e4, h4⟩
  · refine .inl ⟨stop (by omega), ?_⟩
    rw [List.drop_eq_nil_of_le (by omega)] at h'
    exact RunO.nx_ l' sl' h'
theorem s_while (hp : PassesOwn (model X.prog X.w) X.A X.env X.xe) (hc : DT X g c mt) (hb : DSs X g body m) : DS X g (.While c body [] pos) (sWhile mt fg m) := PSw (ps_while hp hc hb) fun D σ H h => by
  obtain ⟨ρ, S, w, l, sl, h⟩ := h
  refine ⟨fun n σ' H' => ∃ ρ' S' w', Rl g.K g.F ρ' S' H' ∧ Slots g.K H' g.F ρ' w' σ' ∧ RunO g (whileN mt fg m n w' S') D ρ' σ' H', ?_, ?_⟩
  · by_cases z : ∀ n, whileN mt fg m n w S = .bad
    · rw [sWhile_bad z] at h
      exact h.elim
    · obtain ⟨n, hn⟩ := Classical.not_forall.mp z
      rw [sWhile_of hn] at h
      exact ⟨n, ρ, S, w, l, sl, h⟩
  · rintro n σ' H' ⟨ρ', S', w', l', sl', h'⟩
    cases n with
    | zero => exact h'.elim
    | succ n =>
      have h' : RunO g ((mt w' S').stm w' _) D ρ' σ' H' := h'
      refine ⟨ρ', S', w', l', sl', RunO.bnd sl' h' fun ρ1 S1 k v H1 e1 l1 r1 h1 => ?_⟩
      have r1 : k = v := r1
      subst r1
      cases k with
      | false => exact RunO.nx_ l1 (sl'.mono e1) h1
      | true =>
        simp only [if_true] at h1 ⊢
        refine ⟨fun σ2 H2 => ∃ ρ2 S2 w2, Rl g.K g.F ρ2 S2 H2 ∧ Slots g.K H2 g.F ρ2 w2 σ2 ∧ RunO g (whileN mt fg m n w2 S2) D ρ2 σ2 H2, fun σ2 H2 q => ⟨n, by omega, q⟩, ρ1, S1, w', l1, sl'.mono e1, ?_⟩
        exact RunO.turn (k := whileN mt fg m n) h1 fun ρ4 S4 w4 H4 σ4 e4 l4 s4 h4 => ⟨ρ4, S4, w4, l4, s4, h4⟩
end
end Mi

namespace Mi
open PySem PySem.Spec PyProof.Rows L2

/-! ### list comprehensions -/
def G.quiet (g : G) (F : Addr → Prop) : G := ⟨g.K, g.mg, F, fun _ _ _ _ => False⟩
def lcD (t : MG) (tt : MT) (te : ME) : List D → List D → Lw → List C → R (List D)
  | [], acc, _, S => .ok acc S
  | d :: ds, acc, w, S => (t (.d d) w S).nox.bind fun w1 S1 => (tt w1 S1).nox.bind fun k S2 => if k = true then
      (te w1 S2).nox.bind fun y S3 => match y with
        | .d y => if acc.length < sizeLine then lcD t tt te ds (acc ++ [y]) w S3 else .bad
        | .l _ => .bad
      else lcD t tt te ds acc w S2
def lcEnd (ys : List D) (S : List C) : R W := .ok (.d (.lst ys)) S
def mLc (mi : MI) (vs : List Nat) (t : MG) (tt : MT) (te : ME) : ME := fun w S => (mi w S).bind fun ds S1 => (lcD t tt te ds [] (forget vs w) S1).bind lcEnd
def mYes : MT := fun _ S => .ok true S
def LEx (g : G) (m : ME) : TE := fun σ H Q => ∃ F, LE (g.quiet F) m σ H Q
def LTx (g : G) (m : MT) : TT := fun σ H Q => ∃ F, LT (g.quiet F) m σ H Q
def LGx (g : G) (is : List Nat) (m : MG) : TG := fun v σ H Q => ∃ F, LG (g.quiet F) is m v σ H Q
theorem pe_x {X : Cx} {g : G} {e : Expr} {m : ME} (h : ∀ F, DE X (g.quiet F) e m) : PE X e (LEx g m) := ⟨fun pins s σ H Q I ⟨F, q⟩ => (h F).run pins s σ H Q I q⟩
theorem pg_x {X : Cx} {g : G} {e : Expr} {is : List Nat} {m : MG} (h : ∀ F, DG X (g.quiet F) e is m) : PG X e (LGx g is m) := ⟨fun pins s σ H v u Q I r ⟨F, q⟩ => (h F).run pins s σ H v u Q I r q⟩
/-- the tests of a clause: none, or one -/
structure DTs (X : Cx) (g : G) (ifs : List Expr) (m : MT) : Prop where
  h : ∀ F, PTs X ifs (LT (g.quiet F) m)
theorem ts_nil {X : Cx} {g : G} : DTs X g [] mYes := ⟨fun F => ⟨fun pins s σ H Q I h => pts_nil.run pins s σ H Q I (by
  obtain ⟨ρ, S, w, l, sl, h⟩ := h
  exact Run.ok_ l rfl h)⟩⟩
theorem ts_one {X : Cx} {g : G} {c : Expr} {m : MT} (h : ∀ F, DT X (g.quiet F) c m) : DTs X g [c] m := ⟨fun F => pts_one (h F)⟩
theorem pts_x {X : Cx} {g : G} {ifs : List Expr} {m : MT} (h : DTs X g ifs m) : PTs X ifs (LTx g m) := ⟨fun pins s σ H Q I ⟨F, q⟩ => (h.h F).run pins s σ H Q I q⟩
section
variable {K : PySem.W.Frag} {F F' : Addr → Prop} {ρ ρ' : List (Option Addr)} {S : List C} {H H' : Hp}
theorem Rl.weakF (l : Rl K F' ρ S H) (hF : ∀ a, F a → F' a) : Rl K F ρ S H := by
  have ev : Ev H (bar F' ρ) H (bar F ρ) := ⟨fun _ _ h _ => h, fun b o h n m => n (m.imp (hF b) id)⟩
  refine ⟨l.len, fun n a e => ?_, l.live, l.inj, fun a h => l.dom a (hF a h), fun n a e z => l.sep n a e (hF a z)⟩
  obtain ⟨c, h1, h2⟩ := l.cell n a e
  exact ⟨c, h1, h2.mono ev fun _ q => q⟩
theorem ev_F {D : Addr} {o : HO} (hD : F D) : Ev H (bar F ρ) (upd H D o) (bar F ρ) := ⟨fun b u h n => by
  rw [upd_ne (fun z => n (.inl (by rw [z]; exact hD)))]
  exact h, fun _ _ _ n => n⟩
theorem rl_F {D : Addr} {o : HO} (l : Rl K F ρ S H) (hD : F D) : Rl K F ρ S (upd H D o) := by
  refine ⟨l.len, fun n a e => ?_, l.live, l.inj, fun a h z => ?_, l.sep⟩
  · obtain ⟨c, h1, h2⟩ := l.cell n a e
    refine ⟨c, h1, h2.mono (ev_F hD) fun o q => ?_⟩
    rw [upd_ne (fun z => l.sep n a e (by rw [z]; exact hD))]
    exact q
  · by_cases e : a = D
    · subst e; rw [upd_same] at z; cases z
    · rw [upd_ne e] at z; exact l.dom a h z
theorem RepW.mono2 (a : Ext ρ H ρ' H') (hF : ∀ b, F' b → F b ∨ H b = none) : ∀ {x : W} {v : V}, RepW K H F ρ x v → RepW K H' F' ρ' x v
  | .d x, v, h => Rep.mono (a.ev2 hF) x v h
  | .l n, v, h => ⟨Nat.lt_of_lt_of_le h.1 a.len, fun b q => h.2 b (a.old n b h.1 q)⟩
theorem Slots.mono2 (a : Ext ρ H ρ' H') (hF : ∀ b, F' b → F b ∨ H b = none) {w : Lw} {σ : L2.St} (h : Slots K H F ρ w σ) : Slots K H' F' ρ' w σ := ⟨h.1, fun i x e => let ⟨v, q, r⟩ := h.2 i x e; ⟨v, q, r.mono2 a hF⟩⟩
theorem forget_none {is : List Nat} {w : Lw} {j : Nat} {x : W} (h : (Mi.forget is w)[j]? = some (some x)) : j ∉ is := by
  induction is with
  | nil => simp
  | cons i is ih =>
    simp only [Mi.forget] at h
    by_cases e : i = j
    · subst e
      by_cases hl : i < (Mi.forget is w).length
      · rw [List.getElem?_set_self hl] at h; cases h
      · rw [List.getElem?_eq_none (by simpa using hl)] at h; cases h
    · rw [List.getElem?_set_ne e] at h
      rw [List.mem_cons, not_or]
      exact ⟨fun z => e z.symm, ih h⟩
theorem Slots.wipe {w : Lw} {σ : L2.St} (h : Slots K H F ρ w σ) (is : List Nat) : Slots K H F ρ (Mi.forget is w) (L2.wipe σ is) :=
  ⟨by rw [forget_len, wipe_length]; exact h.1, fun i x e => by
    rw [wipe_out (forget_none e)]
    exact h.2 i x (forget_get e)⟩
theorem wipe_agr {σ σ2 : L2.St} {is : List Nat} (a : Agr is (L2.wipe σ is) σ2) : L2.wipe σ2 is = L2.wipe σ is := by
  refine List.ext_getElem? fun i => ?_
  have key : ∀ (τ : L2.St) (vs : List Nat), i ∈ vs → i < τ.length → (L2.wipe τ vs)[i]? = some none := fun τ vs => by
    induction vs with
    | nil => intro h; simp at h
    | cons v vs ih =>
      intro h hl
      unfold L2.wipe
      by_cases e : v = i
      · subst e
        rw [List.getElem?_set_self (by rw [wipe_length]; exact hl)]
      · rw [List.getElem?_set_ne e]
        exact ih ((List.mem_cons.mp h).resolve_left fun z => e z.symm) hl
  have len : σ2.length = σ.length := by rw [a.1, wipe_length]
  by_cases hi : i ∈ is
  · by_cases hl : i < σ.length
    · rw [key σ2 is hi (by rw [len]; exact hl), key σ is hi hl]
    · rw [List.getElem?_eq_none (by rw [wipe_length, len]; omega), List.getElem?_eq_none (by rw [wipe_length]; omega)]
  · rw [wipe_out hi, a.2 i hi]
end
section
variable {X : Cx} {g : G}
theorem lc_le {mi : MI} {is : List Nat} {t : MG} {tt : MT} {te : ME} {σ : L2.St} {H : Hp} {Q : VK} (h : LE g (mLc mi is t tt te) σ H Q) : tLc (LI g mi) (LGx g is t) (LTx g tt) (LEx g te) is σ H Q := by
  obtain ⟨ρ, S, w, l, sl, h⟩ := h
  refine ⟨ρ, S, w, l, sl, Run.bnd h fun ρ1 S1 ds J H1 e1 l1 r1 h1 D nD => ?_⟩
  have sl1 := sl.mono e1
  -- the new list is forbidden while the elements are made
  generalize hF' : (fun a => g.F a ∨ a = D) = F'
  have FD : F' D := by rw [← hF']; exact .inr rfl
  have Fg : ∀ a, g.F a → F' a := fun a h => by rw [← hF']; exact .inl h
  have FF : ∀ b, F' b → g.F b ∨ H1 b = none := fun b h => by
    rw [← hF'] at h
    exact h.imp id fun e => by rw [e]; exact nD
  have FF' : ∀ b, F' b → g.F b ∨ b = D := fun b h => by rw [← hF'] at h; exact h
  have nF : ¬ g.F D := fun z => l1.dom D z nD
  have nρ : some D ∉ ρ1 := fun z => new_nb l1 nD (.inr z)
  have start : Rl g.K F' ρ1 S1 (upd H1 D (.lst [])) := by
    have l2 := rl_new (o := .lst []) l1 nD
    refine ⟨l2.len, fun n a e => ?_, l2.live, l2.inj, fun a h => ?_, fun n a e z => ?_⟩
    · obtain ⟨c, h1, h2⟩ := l1.cell n a e
      exact ⟨c, h1, h2.mono ((ext_new nD).ev2 FF) fun o q => upd_keep nD q⟩
    · rcases FF' a h with z | z
      · exact l2.dom a z
      · subst z; rw [upd_same]; exact fun q => nomatch q
    · rcases FF' a z with z | z
      · exact l1.sep n a e z
      · subst z; exact nρ (List.mem_of_getElem? e)
  refine ⟨fun i m H' => ∃ ρ' S' acc vs', Rl g.K F' ρ' S' H' ∧ Ext ρ1 H1 ρ' H' ∧ H' D = some (.lst vs') ∧ Reps g.K H' (bar F' ρ') acc vs' ∧ m = ds.length - i ∧ Run g (rW g) ((lcD t tt te (ds.drop i) acc (Mi.forget is w) S').bind lcEnd) ρ1 σ H1 Q,
    ⟨ds.length, ρ1, S1, [], [], start, ext_new nD, upd_same, Reps.nil, rfl, h1⟩, ?_⟩
  rintro i m H' ⟨ρ', S', acc, vs', l', ex', hD, racc, rfl, h'⟩
  have nρ' : some D ∉ ρ' := fun z => by
    obtain ⟨n, hn⟩ := List.getElem?_of_mem z
    exact l'.sep n D hn FD
  obtain ⟨go, stop⟩ := r1 F' FF ρ' S' H' ex'.xf l' i
  by_cases hi : i < ds.length
  · have ed : ds[i]? = some ds[i] := List.getElem?_eq_getElem hi
    obtain ⟨g1, g2⟩ := go _ ed
    rw [List.drop_eq_getElem_cons hi] at h'
    refine .inr ⟨g1, fun H2 => ∃ ρ2 S2 acc2 vs2, Rl g.K F' ρ2 S2 H2 ∧ Ext ρ1 H1 ρ2 H2 ∧ H2 D = some (.lst vs2) ∧ Reps g.K H2 (bar F' ρ2) acc2 vs2 ∧ Run g (rW g) ((lcD t tt te (ds.drop (i + 1)) acc2 (Mi.forget is w) S2).bind lcEnd) ρ1 σ H1 Q, ?_, fun x H2 y => ?_⟩
    · rintro H2 ⟨ρ2, S2, acc2, vs2, q1, q2, q3, q4, q5⟩
      exact ⟨ds.length - (i + 1), by omega, ρ2, S2, acc2, vs2, q1, q2, q3, q4, rfl, q5⟩
    · obtain ⟨y1, y2, y3⟩ := g2 x H2 y
      have ex2 := ex'.trans y1
      have s2 := (sl1.mono2 ex2 FF).wipe is
      have h2 : Run g (rW g) (((t (.d ds[i]) (Mi.forget is w) S').nox.bind _).bind lcEnd) ρ1 σ H1 Q := h'
      -- the target
      refine ⟨F', ρ', S', Mi.forget is w, .d ds[i], y2, s2, y3, ?_⟩
      cases et : t (.d ds[i]) (Mi.forget is w) S' with
      | exc x S3 => rw [et] at h2; exact h2.elim
      | bad => rw [et] at h2; exact h2.elim
      | ok w3 S3 =>
        rw [et] at h2
        intro ρ3 H3 σ3 e3 l3 s3
        refine ⟨wipe_agr s3.2, ?_⟩
        have h3 : Run g (rW g) (((tt w3 S3).nox.bind _).bind lcEnd) ρ1 σ H1 Q := h2
        -- the test
        refine ⟨F', ρ3, S3, w3, l3, s3.1, ?_⟩
        cases ek : tt w3 S3 with
        | exc x S4 => rw [ek] at h3; exact h3.elim
        | bad => rw [ek] at h3; exact h3.elim
        | ok k S4 =>
          rw [ek] at h3
          intro ρ4 H4 b e4 l4 rb
          have rb : k = b := rb
          subst rb
          have ex4 := ((ex2.trans e3).trans e4)
          have keepD : ∀ {ρ5 : List (Option Addr)} {H5 : Hp}, Ext ρ' H' ρ5 H5 → H5 D = some (.lst vs') := fun e => e.keep D _ hD nρ'
          have h4 := h3
          cases k with
          | false =>
            exact ⟨ρ4, S4, acc, vs', l4, ex4, keepD ((y1.trans e3).trans e4), Reps.mono (((y1.trans e3).trans e4).ev F') _ _ racc, h4⟩
          | true =>
            have h4 : Run g (rW g) (((te w3 S4).nox.bind _).bind lcEnd) ρ1 σ H1 Q := h4
            refine ⟨F', ρ4, S4, w3, l4, s3.1.mono e4, ?_⟩
            cases ey : te w3 S4 with
            | exc x S5 => rw [ey] at h4; exact h4.elim
            | bad => rw [ey] at h4; exact h4.elim
            | ok y S5 =>
              rw [ey] at h4
              cases y with
              | l n => exact h4.elim
              | d y =>
                intro ρ5 H5 v e5 l5 rv
                have ex5 := ((y1.trans e3).trans e4).trans e5
                have h5 : Run g (rW g) ((if acc.length < sizeLine then lcD t tt te (ds.drop (i + 1)) (acc ++ [y]) (Mi.forget is w) S5 else .bad).bind lcEnd) ρ1 σ H1 Q := h4
                by_cases hz : acc.length < sizeLine
                · rw [if_pos hz] at h5
                  refine ⟨vs', keepD ex5, by rw [racc.length]; exact hz, ρ5, S5, acc ++ [y], vs' ++ [v], rl_F l5 FD, ?_, upd_same, ?_, ?_⟩
                  · refine ⟨fun b o hb nb => ?_, (ex'.trans ex5).len, (ex'.trans ex5).old, (ex'.trans ex5).new⟩
                    rw [upd_ne (ne_of_none hb nD)]
                    exact (ex'.trans ex5).keep b o hb nb
                  · exact (Reps.mono (ev_F FD) _ _ (Reps.mono (ex5.ev F') _ _ racc)).append (Reps.cons (Rep.mono (ev_F FD) _ _ rv) Reps.nil)
                  · exact h5
                · rw [if_neg hz] at h5
                  exact h5.elim
  · refine .inl ⟨stop (by omega), ?_⟩
    rw [List.drop_eq_nil_of_le (by omega)] at h'
    refine h' ρ' H' (.ref D) ex' (l'.weakF Fg) ?_
    exact Rep.lst (K := g.K) (H := H') (B := bar g.F ρ') hD (fun z => z.elim nF nρ') (Reps.mono ⟨fun _ _ h _ => h, fun b o h n m => n (m.imp (Fg b) id)⟩ _ _ racc)
variable {elt tg iter : Expr} {ifs : List Expr} {scope : Scope} {own : List (Str × Nat)} {pos : Pos} {mi : MI} {t : MG} {tt : MT} {te : ME}
theorem d_lc (hc : X.calm = true) (hN : X.N.Nodup) (hi : DI X g tg iter mi) (ok : BlkOk X.N X.env.scope scope own)
    (hg : ∀ (s : Shared) (H : Hp) (C : Addr) (cl : List (Str × Addr)) (fp : List Addr) F, DG (X.blk s H scope (compEnvC scope cl C X.env) fp) (g.quiet F) tg (own.map (·.2)) t) (ht : ∀ (s : Shared) (H : Hp) (C : Addr) (cl : List (Str × Addr)) (fp : List Addr), DTs (X.blk s H scope (compEnvC scope cl C X.env) fp) g ifs tt)
    (he : ∀ (s : Shared) (H : Hp) (C : Addr) (cl : List (Str × Addr)) (fp : List Addr) F, DE (X.blk s H scope (compEnvC scope cl C X.env) fp) (g.quiet F) elt te) (hs : ∀ x, foldedSetIterable iter X.env x = pure x := by intro _; rfl) :
    DE X g (.ListComp elt [⟨tg, iter, ifs, 0⟩] scope pos) (mLc mi (own.map (·.2)) t tt te) :=
  PEw (pe_lc hc hN hi ok (fun s H C cl fp => pg_x (hg s H C cl fp)) (fun s H C cl fp => pts_x (ht s H C cl fp)) (fun s H C cl fp => pe_x (he s H C cl fp)) hs) fun _ _ _ => lc_le
theorem s_setLc (i : Nat) {y : Str} {py spos : Pos} (hc : X.calm = true) (hN : X.N.Nodup) (hi : DI X g tg iter mi) (ok : BlkOk X.N X.env.scope scope own)
    (hg : ∀ (s : Shared) (H : Hp) (C : Addr) (cl : List (Str × Addr)) (fp : List Addr) F, DG (X.blk s H scope (compEnvC scope cl C X.env) fp) (g.quiet F) tg (own.map (·.2)) t) (ht : ∀ (s : Shared) (H : Hp) (C : Addr) (cl : List (Str × Addr)) (fp : List Addr), DTs (X.blk s H scope (compEnvC scope cl C X.env) fp) g ifs tt)
    (he : ∀ (s : Shared) (H : Hp) (C : Addr) (cl : List (Str × Addr)) (fp : List Addr) F, DE (X.blk s H scope (compEnvC scope cl C X.env) fp) (g.quiet F) elt te) (hy : X.N[i]? = some y := by rfl) (hyl : X.env.scope.names.lookup y = some .local := by rfl)
    (hsw : swapsWith (.ListComp elt [⟨tg, iter, ifs, 0⟩] scope pos) (some (.Name y py)) spos.line X.env = pure true := by exact sw_true rfl rfl rfl (by decide +kernel)) (hs : ∀ x, foldedSetIterable iter X.env x = pure x := by intro _; rfl) :
    DS X g (.Assign [.Name y py] (.ListComp elt [⟨tg, iter, ifs, 0⟩] scope pos) spos) (sSet i (mLc mi (own.map (·.2)) t tt te)) :=
  PSw (ps_setLc hc hN hy hyl hsw hi ok (fun s H C cl fp => pg_x (hg s H C cl fp)) (fun s H C cl fp => pts_x (ht s H C cl fp)) (fun s H C cl fp => pe_x (he s H C cl fp)) hs) fun D σ H h => by
    obtain ⟨ρ, S, w, l, sl, h⟩ := h
    exact lc_le ⟨ρ, S, w, l, sl, RunO.bnd sl h fun ρ1 S1 x v H1 e1 l1 r1 h1 => RunO.nx_ l1 ((sl.mono e1).set r1) h1⟩
end
end Mi

namespace Mi
open PySem PySem.Spec PyProof.Rows L2

/-! ### defs -/
/-- what a def on data hands back -/
inductive RP where
  | ok (d : D) | exc (x : Ex) | bad
def RP.bind (r : RP) (f : D → RP) : RP := match r with
  | .ok d => f d
  | .exc x => .exc x
  | .bad => .bad
/-- the names at a def's entry: the arguments, k empty ones -/
def ent (ws : List W) (k : Nat) : Lw := ws.map some ++ List.replicate k none
/-- a def of n names on data: no cell of others is seen -/
def runP (np n : Nat) (m : MS) (ds : List D) : RP := if ds.length = np then match m (ent (ds.map W.d) (n - ds.length)) [] with
  | .rt (.d d) _ => .ok d
  | .nx _ _ => .ok .non
  | .exc x _ _ => .exc x
  | _ => .bad
  else .bad
/-- behind a def its own cells are dropped (not where one is handed back) -/
def cutR (n : Nat) (x : W) (S : List C) : R W := match x with
  | .d d => .ok (.d d) (S.take n)
  | .l m => if m < n then .ok (.l m) (S.take n) else .ok (.l m) S
/-- a def of n names that sees the cells -/
def runS (np n : Nat) (m : MS) (ws : List W) (S : List C) : R W := if ws.length = np then match m (ent ws (n - ws.length)) S with
  | .rt x S1 => cutR S.length x S1
  | .nx _ S1 => .ok (.d .non) (S1.take S.length)
  | .exc x _ S1 => .exc x (S1.take S.length)
  | _ => .bad
  else .bad
def spP (K : PySem.W.Frag) (mg : Str → Option Value) (F : List D → RP) : Sp := fun vs H Q E => ∃ (B : Addr → Prop) (ds : List D), (∀ a, B a → H a ≠ none) ∧ Reps K H B ds vs ∧ match F ds with
  | .ok d => ∀ H' v, Same H H' → Rep K H' B d v → Q v H'
  | .exc x => ∀ H' cls dd, Same H H' → RepX K mg H' B x cls dd → E cls dd H'
  | .bad => False
def spS (K : PySem.W.Frag) (mg : Str → Option Value) (F : List W → List C → R W) : Sp := fun vs H Q E => ∃ (B : Addr → Prop) (ρ : List (Option Addr)) (S : List C) (ws : List W), Rl K B ρ S H ∧ RepWs K H B ρ ws vs ∧ match F ws S with
  | .ok x S' => ∀ ρ' H' v, Ext ρ H ρ' H' → Rl K B ρ' S' H' → RepW K H' B ρ' x v → Q v H'
  | .exc x S' => ∀ ρ' H' cls dd, Ext ρ H ρ' H' → Rl K B ρ' S' H' → RepX K mg H' (bar B ρ') x cls dd → E cls dd H'
  | .bad => False
theorem okN {P : Program} {w : World} {K : PySem.W.Frag} {mg : Str → Option Value} {base : Heap} {x qual : Str} {st : Stmt} {f : Addr} {fd : FuncData} {N ps : List Str} {k : Nat} {sp : Sp} (F : Fun K x qual st f fd) (S : FnScope N ps (defScope st)) (len : ∀ vs H Q E, sp vs H Q E → vs.length = ps.length)
    (hbody : ∀ (cdv : Value) (A : Around) (outer : List Env) (s : Shared) (H : Hp) (vs : List V) (Q : VK) (E : XK), Room k (A.deeper (envOfC qual (defScope st) s.heap.objs.size f cdv)) → sp vs H Q E →
      ∃ t, PSs (cxOf (L2N.CX P w) P w K mg base N qual (defScope st) f cdv A outer s H E) (defBody st) t ∧ t { nx := fun _ H' => Q .non H', rt := Q } (start N vs) H) : FnOk P w K mg base (L2N.CX P w) (k + 1) f fd ps sp := by
  obtain ⟨oc, od, kV, doc, pm, an, cdv, ct, osl, rfl, lk, hcd⟩ := F.ex
  exact fn_of lk hcd S len fun A outer s H vs Q E hr hsp => hbody cdv A outer s H vs Q E hr hsp
theorem takes0N {X : Cx} : L2N.Takes X (fun _ _ _ _ => False) := fun _ _ x => by
  obtain ⟨_, _, _, _, _, _, _, _, _, _, _, _, _, _, _, _, z⟩ := x
  exact z.elim
section
variable {K : PySem.W.Frag} {mg : Str → Option Value} {F : Addr → Prop} {ρ : List (Option Addr)} {S : List C} {H H' : Hp}
theorem Rl.nil (h : ∀ a, F a → H a ≠ none) : Rl K F [] [] H := ⟨rfl, fun n a e => by simp at e, fun n c e => by simp at e, fun n m a e => by simp at e, h, fun n a e => by simp at e⟩
theorem bar_nil : bar F [] = F := by funext a; simp [bar]
theorem ext_same (s : Same H H') : Ext ρ H ρ H' := ⟨fun b o h _ => s b o h, Nat.le_refl _, fun _ _ _ h => h, fun _ h => .inl h⟩
theorem rl_same (l : Rl K F ρ S H) (s : Same H H') : Rl K F ρ S H' := by
  have e : Ext ρ H ρ H' := ext_same s
  refine ⟨l.len, fun n a h => ?_, l.live, l.inj, fun a h z => ?_, l.sep⟩
  · obtain ⟨c, h1, h2⟩ := l.cell n a h
    exact ⟨c, h1, h2.mono (e.ev F) fun o q => s a o q⟩
  · cases q : H a with
    | none => exact l.dom a h q
    | some o => rw [s a o q] at z; cases z
theorem bar_dom (l : Rl K F ρ S H) : ∀ a, bar F ρ a → H a ≠ none := fun a h z => new_nb l z h
/-- the later cells dropped -/
theorem rl_take (l : Rl K F ρ S H) (n : Nat) : Rl K F (ρ.take n) (S.take n) H ∧ Ev H (bar F ρ) H (bar F (ρ.take n)) := by
  have get : ∀ (m : Nat) a, (ρ.take n)[m]? = some (some a) → m < n ∧ ρ[m]? = some (some a) := fun m a h => by
    rw [List.getElem?_take] at h
    split at h
    · rename_i c; exact ⟨c, h⟩
    · cases h
  have ev : Ev H (bar F ρ) H (bar F (ρ.take n)) := ⟨fun _ _ h _ => h, fun b o h nb z => nb (z.imp id fun z => List.mem_of_mem_take z)⟩
  refine ⟨⟨by simp [l.len], fun m a h => ?_, fun m c h hc => ?_, fun m k a h1 h2 => l.inj m k a (get m a h1).2 (get k a h2).2, l.dom, fun m a h => l.sep m a (get m a h).2⟩, ev⟩
  · obtain ⟨h1, h2⟩ := get m a h
    obtain ⟨c, h3, h4⟩ := l.cell m a h2
    exact ⟨c, by rw [List.getElem?_take, if_pos h1]; exact h3, h4.mono ev fun _ q => q⟩
  · rw [List.getElem?_take] at h
    split at h
    · rename_i c1
      obtain ⟨a, ha⟩ := l.live m c h hc
      exact ⟨a, by rw [List.getElem?_take, if_pos c1]; exact ha⟩
    · cases h
theorem ext_take {ρ' : List (Option Addr)} (e : Ext ρ H ρ' H') : Ext ρ H (ρ'.take ρ.length) H' := ⟨e.keep, by rw [List.length_take]; have := e.len; omega, fun n a h q => by
    rw [List.getElem?_take, if_pos h] at q
    exact e.old n a h q, fun a h => e.new a (List.mem_of_mem_take h)⟩
theorem RepW.take {n : Nat} (l : Rl K F ρ S H) : ∀ {x : W} {v : V}, RepW K H F ρ x v → (∀ m, x = .l m → m < n) → RepW K H F (ρ.take n) x v
  | .d x, v, h, _ => Rep.mono (rl_take l n).2 x v h
  | .l m, v, h, hm => ⟨by rw [List.length_take]; have := hm m rfl; have := h.1; omega, fun a q => h.2 a (by
      rw [List.getElem?_take] at q
      split at q
      · exact q
      · cases q)⟩
theorem RepX.mono {H' : Hp} {B B' : Addr → Prop} {x : Ex} {cls : Value} {dd : Option Addr} (h : RepX K mg H B x cls dd) (e : Ev H B H' B') : RepX K mg H' B' x cls dd := by
  obtain ⟨a, h1, h2, h3⟩ := h
  refine ⟨a, h1, h2, ?_⟩
  cases dd with
  | none => exact h3
  | some d =>
    obtain ⟨nb, us, q1, q2, q3⟩ := h3
    exact ⟨e.nb _ _ q2 nb, us, q1, e.keep _ _ q2 nb, Reps.mono e _ _ q3⟩
theorem ent_slots {ws : List W} {vs : List V} {N : List Str} (r : RepWs K H F ρ ws vs) : Slots K H F ρ (ent ws (N.length - ws.length)) (L2.start N vs) := by
  have hl := r.length
  refine ⟨by simp [ent, L2.start, hl], fun i x e => ?_⟩
  unfold ent at e
  have go : ∀ (ws : List W) (vs : List V) (i : Nat), RepWs K H F ρ ws vs → ∀ r1 r2, (ws.map some ++ List.replicate r1 none)[i]? = some (some x) → ∃ v, (vs.map some ++ List.replicate r2 none)[i]? = some (some v) ∧ RepW K H F ρ x v := by
    intro ws
    induction ws with
    | nil =>
      intro vs i _ r1 r2 h
      simp only [List.map_nil, List.nil_append, List.getElem?_replicate] at h
      split at h <;> cases h
    | cons y ws ih =>
      intro vs i r r1 r2 h
      obtain ⟨v, q, rfl, h1, h2⟩ := r
      cases i with
      | zero => simp at h; subst h; exact ⟨v, by simp, h1⟩
      | succ i => simpa using ih q i h2 r1 r2 (by simpa using h)
  exact go ws vs i r _ _ e
theorem repWs_d : ∀ {ds : List D} {vs : List V}, Reps K H (bar F ρ) ds vs → RepWs K H F ρ (ds.map W.d) vs
  | [], _, h => h.nil_inv
  | d :: ds, _, h => by
    obtain ⟨v, r, rfl, h1, h2⟩ := h.cons_inv
    exact ⟨v, r, rfl, h1, repWs_d h2⟩
end
section
variable {P : Program} {w : World} {K : PySem.W.Frag} {mg : Str → Option Value} {base : Heap} {x qual : Str} {st : Stmt} {f : Addr} {fd : FuncData} {N ps : List Str} {k : Nat} {m : MS}
/-- a def on data does what its mirror does -/
theorem def_P (F : Fun K x qual st f fd) (sc : FnScope N ps (defScope st))
    (hb : ∀ (cdv : Value) (A : Around) (outer : List Env) (s : Shared) (H : Hp) (E : XK), Room k (A.deeper (envOfC qual (defScope st) s.heap.objs.size f cdv)) → ∀ B : Addr → Prop,
      DSs (cxOf (L2N.CX P w) P w K mg base N qual (defScope st) f cdv A outer s H E) ⟨K, mg, B, fun cls d _ H => E cls d H⟩ (defBody st) m) :
    FnOk P w K mg base (L2N.CX P w) (k + 1) f fd ps (spP K mg (runP ps.length N.length m)) := by
  refine okN F sc (fun vs H Q E h => ?_) fun cdv A outer s H vs Q E hr h => ?_
  · obtain ⟨B, ds, _, r, h⟩ := h
    by_cases hl : ds.length = ps.length
    · rw [r.length, hl]
    · unfold runP at h
      rw [if_neg hl] at h
      exact h.elim
  · obtain ⟨B, ds, hB, r, h⟩ := h
    refine ⟨_, hb cdv A outer s H E hr B, [], [], ent (ds.map W.d) (N.length - ds.length), Rl.nil hB, ?_, ?_⟩
    · have := ent_slots (N := N) (repWs_d (ρ := []) (F := B) (by rw [bar_nil]; exact r))
      rwa [List.length_map] at this
    · have hl : ds.length = ps.length := by
        by_cases hl : ds.length = ps.length
        · exact hl
        · unfold runP at h
          rw [if_neg hl] at h
          exact h.elim
      unfold runP at h
      rw [if_pos hl] at h
      cases e : m (ent (ds.map W.d) (N.length - ds.length)) [] with
      | nx w1 S1 =>
        rw [e] at h
        exact fun ρ1 H1 σ1 e1 l1 s1 => h H1 .non (fun b o q => e1.keep b o q (by simp)) Rep.non
      | rt x S1 =>
        rw [e] at h
        cases x with
        | l n => exact h.elim
        | d d => exact fun ρ1 H1 v e1 l1 r1 => h H1 v (fun b o q => e1.keep b o q (by simp)) (Rep.mono ⟨fun _ _ h _ => h, fun b o h n z => n (.inl z)⟩ _ _ r1)
      | exc x w1 S1 =>
        rw [e] at h
        exact fun ρ1 H1 σ1 cls dd e1 l1 s1 rx => h H1 cls dd (fun b o q => e1.keep b o q (by simp)) (rx.mono ⟨fun _ _ h _ => h, fun b o h n z => n (.inl z)⟩)
      | bk w1 S1 => rw [e] at h; exact h.elim
      | ct w1 S1 => rw [e] at h; exact h.elim
      | bad => rw [e] at h; exact h.elim
theorem def_S (F : Fun K x qual st f fd) (sc : FnScope N ps (defScope st))
    (hb : ∀ (cdv : Value) (A : Around) (outer : List Env) (s : Shared) (H : Hp) (E : XK), Room k (A.deeper (envOfC qual (defScope st) s.heap.objs.size f cdv)) → ∀ B : Addr → Prop,
      DSs (cxOf (L2N.CX P w) P w K mg base N qual (defScope st) f cdv A outer s H E) ⟨K, mg, B, fun cls d _ H => E cls d H⟩ (defBody st) m) :
    FnOk P w K mg base (L2N.CX P w) (k + 1) f fd ps (spS K mg (runS ps.length N.length m)) := by
  refine okN F sc (fun vs H Q E h => ?_) fun cdv A outer s H vs Q E hr h => ?_
  · obtain ⟨B, ρ, S, ws, _, r, h⟩ := h
    by_cases hl : ws.length = ps.length
    · rw [r.length, hl]
    · unfold runS at h
      rw [if_neg hl] at h
      exact h.elim
  · obtain ⟨B, ρ, S, ws, l, r, h⟩ := h
    refine ⟨_, hb cdv A outer s H E hr B, ρ, S, ent ws (N.length - ws.length), l, ent_slots r, ?_⟩
    have hl : ws.length = ps.length := by
      by_cases hl : ws.length = ps.length
      · exact hl
      · unfold runS at h
        rw [if_neg hl] at h
        exact h.elim
    unfold runS at h
    rw [if_pos hl] at h
    cases e : m (ent ws (N.length - ws.length)) S with
    | nx w1 S1 =>
      rw [e] at h
      intro ρ1 H1 σ1 e1 l1 s1
      have z := (rl_take l1 S.length).1
      rw [← l.len] at z h
      exact h _ H1 .non (ext_take e1) z RepW.nonk
    | rt x S1 =>
      rw [e] at h
      intro ρ1 H1 v e1 l1 r1
      have z := (rl_take l1 S.length).1
      cases x with
      | d d =>
        have rz := RepW.take (n := S.length) l1 r1 (fun m q => nomatch q)
        rw [← l.len] at z h rz
        exact h _ H1 v (ext_take e1) z rz
      | l n =>
        simp only [cutR] at h
        by_cases c : n < S.length
        · rw [if_pos c] at h
          have rz := RepW.take (n := S.length) l1 r1 (fun m q => by cases q; exact c)
          rw [← l.len] at z h rz
          exact h _ H1 v (ext_take e1) z rz
        · rw [if_neg c] at h
          exact h _ H1 v e1 l1 r1
    | exc x w1 S1 =>
      rw [e] at h
      intro ρ1 H1 σ1 cls dd e1 l1 s1 rx
      have z := rl_take l1 S.length
      have rz := rx.mono z.2
      have z := z.1
      rw [← l.len] at z h rz
      exact h _ H1 cls dd (ext_take e1) z rz
    | bk w1 S1 => rw [e] at h; exact h.elim
    | ct w1 S1 => rw [e] at h; exact h.elim
    | bad => rw [e] at h; exact h.elim
end
/-! ### calls -/
def RP.toR (r : RP) (S : List C) : R W := match r with
  | .ok d => .ok (.d d) S
  | .exc x => .exc x S
  | .bad => .bad
def mCallP (F : List D → RP) (m : MA) : ME := fun w S => (m w S).bind fun xs S1 => match pures xs with
  | some ds => (F ds).toR S1
  | none => .bad
def mCallS (F : List W → List C → R W) (m : MA) : ME := fun w S => (m w S).bind F
section
variable {X : Cx} {g : G} {k : Nat} {f : Addr} {fd : FuncData} {ps : List Str} {x : Str} {p pos : Pos} {e : Expr} {es : List Expr} {m : MA}
theorem d_callP {F : List D → RP} (Fo : FnOk X.prog X.w X.K X.mg X.base (L2N.CX X.prog X.w) k f fd ps (spP X.K X.mg F)) (hr : Room k X.A) (hm : X.mg x = some (.ref f)) (hk : PySem.W.keepIn X.K (.ref f) = true) (hb : Binds X.K fd ps []) (tk : L2N.Takes X g.Wx)
    (ha : DA X g (e :: es) m) (hg : Gl X x := by rfl) (hK : g.K = X.K := by rfl) (hM : g.mg = X.mg := by rfl) (hdb : (x == ("__debug__" : Str)) = false := by decide) (he : starEach (e :: es) X.env = (false, eval e X.env) :: starEach es X.env := by rfl) (hpl : (backTo pos (starEach es X.env)).any (·.1) = false := by rfl) :
    DE X g (.Call (.Name x p) (e :: es) [] pos) (mCallP F m) := by
  refine PEw (pe_callS Fo hr hg hm hk hb (fun σ => L2N.passAt tk σ) ha hdb he hpl) fun σ H Q h => ?_
  obtain ⟨ρ, S, w, l, sl, h⟩ := h
  refine ⟨ρ, S, w, l, sl, Run.bnd h fun ρ1 S1 xs vs H1 e1 l1 r1 h1 => ?_⟩
  cases ep : pures xs with
  | none => rw [ep] at h1; exact h1.elim
  | some ds =>
    simp only [ep] at h1
    have rd := pures_ok ep r1
    rw [hK] at rd
    refine ⟨bar g.F ρ1, ds, bar_dom l1, rd, ?_⟩
    cases eF : F ds with
    | bad => rw [eF] at h1; exact h1
    | ok d =>
      rw [eF] at h1
      intro H2 v sm rv
      rw [← hK] at rv
      exact h1 ρ1 H2 v (ext_same sm) (rl_same l1 sm) rv
    | exc z =>
      rw [eF] at h1
      intro H2 cls dd sm rv
      rw [← hK, ← hM] at rv
      exact h1 ρ1 H2 cls dd (ext_same sm) (rl_same l1 sm) rv
theorem d_callS {F : List W → List C → R W} (Fo : FnOk X.prog X.w X.K X.mg X.base (L2N.CX X.prog X.w) k f fd ps (spS X.K X.mg F)) (hr : Room k X.A) (hm : X.mg x = some (.ref f)) (hk : PySem.W.keepIn X.K (.ref f) = true) (hb : Binds X.K fd ps []) (tk : L2N.Takes X g.Wx)
    (ha : DA X g (e :: es) m) (hg : Gl X x := by rfl) (hK : g.K = X.K := by rfl) (hM : g.mg = X.mg := by rfl) (hdb : (x == ("__debug__" : Str)) = false := by decide) (he : starEach (e :: es) X.env = (false, eval e X.env) :: starEach es X.env := by rfl) (hpl : (backTo pos (starEach es X.env)).any (·.1) = false := by rfl) :
    DE X g (.Call (.Name x p) (e :: es) [] pos) (mCallS F m) := by
  refine PEw (pe_callS Fo hr hg hm hk hb (fun σ => L2N.passAt tk σ) ha hdb he hpl) fun σ H Q h => ?_
  obtain ⟨ρ, S, w, l, sl, h⟩ := h
  refine ⟨ρ, S, w, l, sl, Run.bnd h fun ρ1 S1 xs vs H1 e1 l1 r1 h1 => ?_⟩
  refine ⟨g.F, ρ1, S1, xs, hK ▸ l1, hK ▸ r1, ?_⟩
  cases eF : F xs S1 with
  | bad => rw [eF] at h1; exact h1
  | ok d S2 =>
    rw [eF] at h1
    intro ρ2 H2 v e2 l2 rv
    rw [← hK] at rv l2
    exact h1 ρ2 H2 v e2 l2 rv
  | exc z S2 =>
    rw [eF] at h1
    intro ρ2 H2 cls dd e2 l2 rv
    rw [← hK, ← hM] at rv
    rw [← hK] at l2
    exact h1 ρ2 H2 cls dd e2 l2 rv
end
/-- the law's own def: from its mirror's answer -/
def spL (K : PySem.W.Frag) (F : List D → RP) : Sp := fun vs H Q _ => ∃ (B : Addr → Prop) (ds : List D), (∀ a, B a → H a ≠ none) ∧ Reps K H B ds vs ∧ F ds = .ok (.bl true) ∧ ∀ H', Q (.bl true) H'
theorem law_P {P : Program} {w : World} {K : PySem.W.Frag} {mg : Str → Option Value} {base : Heap} {f : Addr} {fd : FuncData} {ps : List Str} {k : Nat} {F : List D → RP} (h : FnOk P w K mg base (L2N.CX P w) k f fd ps (spP K mg F)) : FnOk P w K mg base (L2N.CX P w) k f fd ps (spL K F) :=
  h.imp fun vs H Q E ⟨B, ds, hB, r, e, q⟩ => ⟨B, ds, hB, r, by
    rw [e]
    intro H' v sm rv
    rw [Rep.bl_inv rv]
    exact q H'⟩
theorem script_rep {K : PySem.W.Frag} {H : Hp} {a : Addr} {ns : List Int} (h : SqL K H a (ns.map V.int)) : Reps K H (fun _ => False) [.frz (ns.map D.int)] [.ref a] := by
  refine Reps.cons ?_ Reps.nil
  simp only [Rep]
  refine ⟨a, _, rfl, ?_, ints_reps ns⟩
  rcases h with h | ⟨o, h⟩
  · exact .inl ⟨h, fun z => z⟩
  · exact .inr (.inr ⟨o, h⟩)
end Mi

namespace Mi
open PySem PySem.Spec PyProof.Rows L2

/-! ### a, b = a list or a tuple -/
def gSeqM (ms : List MG) : MG := fun x w S => match vw x S with
  | some (.tup ds) => if ds.length = ms.length then gAll ms ds w S else .bad
  | some (.lst ds) => if ds.length = ms.length then gAll ms ds w S else .bad
  | _ => .bad
section
variable {X : Cx} {g : G} {ms : List MG} {pos : Pos}
theorem pg_or {e : Expr} {t t' : TG} (h : PG X e t) (h' : PG X e t') : PG X e (fun v σ H Q => t v σ H Q ∨ t' v σ H Q) := ⟨fun pins s σ H v u Q I r q => q.elim (h.run pins s σ H v u Q I r) (h'.run pins s σ H v u Q I r)⟩
theorem g_seq {es : List Expr} {k : Nat} {is : List Nat} (hc : X.calm = true) (h : DGs X g es is ms) (hn : (assignEach es X.env).length = ms.length := by rfl) (hst : (assignEach es X.env).findIdx? (·.1) = none := by rfl) (hK : g.K = X.K := by rfl) :
    DG X g (.Tuple es k pos) is (gSeqM ms) := PGw (pg_or (pg_tup hc h hn hst) (pg_unl hc h hn hst)) fun v σ H Q h => by
  obtain ⟨ρ, S, w, x, l, sl, r, h⟩ := h
  unfold gSeqM at h
  cases e : vw x S with
  | none => rw [e] at h; exact h.elim
  | some d =>
    cases d with
    | tup ds =>
      simp only [e] at h
      split at h
      · rename_i hz
        obtain ⟨p, vs, rfl, h1, r1⟩ := RepR.tup_inv (vw_ok l r e)
        exact .inl ⟨p, vs, rfl, hK ▸ h1.of, by rw [r1.length]; exact hz, ρ, S, w, ds, l, sl, r1, h⟩
      · exact h.elim
    | lst ds =>
      simp only [e] at h
      split at h
      · rename_i hz
        obtain ⟨p, vs, rfl, h1, r1⟩ := RepR.lst_inv (vw_ok l r e)
        exact .inr ⟨p, vs, rfl, .of h1, by rw [r1.length]; exact hz, ρ, S, w, ds, l, sl, r1, h⟩
      · exact h.elim
    | _ => simp only [e] at h; exact h.elim
end
/-! ### sorted -/
def pairOf : D → Option (Int × Int)
  | .tup [.int a, .int b] => some (a, b)
  | _ => none
def pairsOf : List D → Option (List (Int × Int))
  | [] => some []
  | d :: ds => match pairOf d, pairsOf ds with
    | some i, some r => some (i :: r)
    | _, _ => none
def pairD (p : Int × Int) : D := .tup [.int p.1, .int p.2]
def lexLe (p q : Int × Int) : Bool := decide (p.1 < q.1) || (decide (p.1 = q.1) && decide (p.2 ≤ q.2))
def sortedF : List D → Option D
  | [.lst xs] => match intsOf xs with
    | some ns => some (.lst ((ns.mergeSort fun a b => decide (a ≤ b)).map .int))
    | none => (pairsOf xs).map fun ps => .lst ((ps.mergeSort lexLe).map pairD)
  | _ => none
theorem lexLe_trans (a b c : Int × Int) : lexLe a b = true → lexLe b c = true → lexLe a c = true := by
  unfold lexLe; simp only [Bool.or_eq_true, Bool.and_eq_true, decide_eq_true_eq]; omega
theorem lexLe_total (a b : Int × Int) : (lexLe a b || lexLe b a) = true := by
  unfold lexLe; simp only [Bool.or_eq_true, Bool.and_eq_true, decide_eq_true_eq]; omega
theorem lexLe_anti (a b : Int × Int) : lexLe a b = true → lexLe b a = true → a = b := by
  unfold lexLe; simp only [Bool.or_eq_true, Bool.and_eq_true, decide_eq_true_eq]
  intro h1 h2
  exact Prod.ext (by omega) (by omega)
theorem lexB_le {a b : Int × Int} : SrtO.lexB b a = false ↔ lexLe a b = true := by
  rw [SrtO.lexB_no]
  unfold lexLe; simp only [Bool.or_eq_true, Bool.and_eq_true, decide_eq_true_eq]; omega
/-- one sorted arrangement -/
theorem sorted_one {α : Type} {le : α → α → Bool} (tr : ∀ a b c, le a b = true → le b c = true → le a c = true) (tot : ∀ a b, (le a b || le b a) = true) (anti : ∀ a b, le a b = true → le b a = true → a = b) {l m : List α} (p : l.Perm m) (s : l.Pairwise fun a b => le a b = true) : l = m.mergeSort le := by
  have p2 : l.Perm (m.mergeSort le) := p.trans (List.mergeSort_perm m le).symm
  have s2 := List.pairwise_mergeSort tr tot m
  exact p2.eq_of_pairwise (fun a b _ _ h1 h2 => anti a b h1 h2) s s2
/-- sorted(xs) of pairs of ints, wherever they stand -/
def rSortedPK (K : PySem.W.Frag) : List V → Hp → VK → Prop := fun vs H Q => ∃ (a : Addr) (xs : List V) (k : V → Int × Int), vs = [V.ref a] ∧ SqL K H a xs ∧ (∀ x ∈ xs, ∃ t, x = V.ref t ∧ SqT K H t [.int (k x).1, .int (k x).2]) ∧
  ∀ ys p, SrtO.Srtd (ltP k) ys → SrtO.Stb (ltP k) ys xs → H p = none → Q (.ref p) (upd H p (.lst ys))
section
variable {X : Cx} {g : G}
theorem cr_sortedPK : CallR X (.builtin "sorted") (rSortedPK X.K) := by
  intro pins s σ H vs us Q I r h
  obtain ⟨a, xs, k, rfl, hs, hx, q⟩ := h
  obtain ⟨its, rv, hl, hz⟩ := I.list hs
  obtain ⟨u, rfl, ru⟩ := vals1 r
  obtain rfl : u = Value.ref a := ru
  obtain ⟨e1, e2⟩ := refs_back rv fun x m => by
    obtain ⟨t, e, _⟩ := hx x m
    exact ⟨t, e⟩
  refine SrtO.sorted_pairsO (k := fun u => k (backV u)) hl.isList (by rw [← rv.length]; exact hz) (fun v hv => ?_) fun h' d out h1 h2 kp hd hn => ?_
  · obtain ⟨t, rfl⟩ := e2 v hv
    have hm : V.ref t ∈ xs := by rw [e1]; exact List.mem_map.mpr ⟨_, hv, rfl⟩
    obtain ⟨t', e, ht⟩ := hx _ hm
    cases e
    obtain ⟨its2, r2, ⟨o, ho, hc, n, hd⟩, _⟩ := I.tuple ht
    obtain ⟨u1, u2, rfl, ri, rj⟩ := vals2 r2
    obtain ⟨t1, rfl⟩ := ri
    obtain ⟨t2, rfl⟩ := rj
    exact ⟨t, o, t1, t2, n, rfl, ho, hc, hd⟩
  · have h3 : ∀ u ∈ out, ∃ a, u = Value.ref a := fun u hu => e2 u (h2.perm.mem_iff.mp hu)
    obtain ⟨n, hn⟩ := hn
    have hb : SrtO.Stb (ltP k) (out.map backV) xs := by
      rw [e1]
      exact SrtO.Stb.map (ltP_swo k) backV h2
    refine ⟨.ref d, upd H d (.lst (out.map backV)), I.laid (t' := s.toks) kp hd ⟨?_, out, n, vals_back h3, hn⟩, rfl, q _ d (SrtO.srtd_map h1) hb (I.hok.fresh hd)⟩
    rw [hb.len]
    exact hz
theorem pairOf_inv {d : D} {p : Int × Int} (h : pairOf d = some p) : d = pairD p := by
  unfold pairOf at h
  split at h
  · cases h; rfl
  · cases h
theorem pairsOf_inv : ∀ {ds : List D} {ps : List (Int × Int)}, pairsOf ds = some ps → ds = ps.map pairD
  | [], _, h => by cases h; rfl
  | d :: ds, ps, h => by
    simp only [pairsOf] at h
    cases h1 : pairOf d with
    | none => rw [h1] at h; cases h
    | some i =>
      cases h2 : pairsOf ds with
      | none => rw [h1, h2] at h; cases h
      | some r =>
        rw [h1, h2] at h
        cases h
        rw [pairOf_inv h1, pairsOf_inv h2]
        rfl
theorem reps_mem {K : PySem.W.Frag} {H : Hp} {B : Addr → Prop} : ∀ {ds : List D} {vs : List V} {v : V}, Reps K H B ds vs → v ∈ vs → ∃ d ∈ ds, Rep K H B d v
  | [], _, _, r, h => by rw [r.nil_inv] at h; simp at h
  | d :: ds, _, v, r, h => by
    obtain ⟨u, q, rfl, r1, r2⟩ := r.cons_inv
    rcases List.mem_cons.mp h with rfl | h
    · exact ⟨d, by simp, r1⟩
    · obtain ⟨e, he, re⟩ := reps_mem r2 h
      exact ⟨e, by simp [he], re⟩
open Classical in
/-- the pair that stands at a value -/
noncomputable def pairAt (K : PySem.W.Frag) (H : Hp) (v : V) : Int × Int := if h : ∃ p : Int × Int, ∃ t, v = .ref t ∧ SqT K H t [.int p.1, .int p.2] then choose h else (0, 0)
theorem pairAt_ok {pins : List (Addr × Obj)} {σ : L2.St} {H : Hp} {s : Shared} (I : Inv X pins σ H s) {t : Addr} {p : Int × Int} (h : SqT X.K H t [.int p.1, .int p.2]) : pairAt X.K H (.ref t) = p := by
  have ex : ∃ p : Int × Int, ∃ t', V.ref t = .ref t' ∧ SqT X.K H t' [.int p.1, .int p.2] := ⟨p, t, rfl, h⟩
  unfold pairAt
  rw [dif_pos ex]
  obtain ⟨t', e, h'⟩ := Classical.choose_spec ex
  cases e
  have := I.tuple_inj h' h
  injection this with a1 a2
  injection a2 with a2 _
  exact Prod.ext (V.int.inj a1) (V.int.inj a2)
/-- .. said of data: no need to look -/
def rSortedD (g : G) (X : Cx) : List V → Hp → VK → Prop := fun vs H Q => ∃ (B : Addr → Prop) (a : Addr) (us : List V) (ps : List (Int × Int)), vs = [V.ref a] ∧ H a = some (.lst us) ∧ Reps X.K H B (ps.map pairD) us ∧
  ∀ zs p, Reps X.K H B ((ps.mergeSort lexLe).map pairD) zs → H p = none → Q (.ref p) (upd H p (.lst zs))
theorem cr_sortedD : CallR X (.builtin "sorted") (rSortedD g X) := by
  intro pins s σ H vs us Q I r h
  obtain ⟨B, a, xs, ps, rfl, ha, hr, q⟩ := h
  have at_ : ∀ x ∈ xs, ∃ p t, x = V.ref t ∧ SqT X.K H t [.int p.1, .int p.2] ∧ Rep X.K H B (pairD p) x := fun x hx => by
    obtain ⟨d, hd, rd⟩ := reps_mem hr hx
    obtain ⟨p, hp, rfl⟩ := List.mem_map.mp hd
    obtain ⟨t, vs, rfl, h1, h2⟩ := Rep.tup_inv rd
    obtain ⟨v1, q1, rfl, r1, r2⟩ := h2.cons_inv
    obtain ⟨v2, q2, rfl, r3, r4⟩ := r2.cons_inv
    rw [r4.nil_inv, r1.int_inv, r3.int_inv] at h1
    exact ⟨p, t, rfl, h1.of, rd⟩
  refine cr_sortedPK pins s σ H [.ref a] us Q I r ⟨a, xs, pairAt X.K H, rfl, .of ha, fun x hx => ?_, fun ys p hs hb hp => ?_⟩
  · obtain ⟨p, t, rfl, h1, _⟩ := at_ x hx
    exact ⟨t, rfl, by rw [pairAt_ok I h1]; exact h1⟩
  · refine q ys p ?_ hp
    have key : ∀ (l : List V), (∀ x ∈ l, x ∈ xs) → Reps X.K H B ((l.map (pairAt X.K H)).map pairD) l := fun l => by
      induction l with
      | nil => intro _; exact Reps.nil
      | cons x l ih =>
        intro hl
        obtain ⟨p, t, rfl, h1, h2⟩ := at_ x (hl x (by simp))
        exact Reps.cons (by rw [pairAt_ok I h1]; exact h2) (ih fun y hy => hl y (by simp [hy]))
    have e1 : xs.map (pairAt X.K H) = ps := by
      have : ∀ (l : List (Int × Int)) (us : List V), (∀ x ∈ us, x ∈ xs) → Reps X.K H B (l.map pairD) us → us.map (pairAt X.K H) = l := fun l => by
        induction l with
        | nil => intro us _ r; rw [r.nil_inv]; rfl
        | cons p l ih =>
          intro us hu r
          obtain ⟨v, q, rfl, r1, r2⟩ := r.cons_inv
          obtain ⟨t, ws, rfl, h1, h2⟩ := Rep.tup_inv r1
          obtain ⟨v1, q1, rfl, s1, s2⟩ := h2.cons_inv
          obtain ⟨v2, q2, rfl, s3, s4⟩ := s2.cons_inv
          rw [s4.nil_inv, s1.int_inv, s3.int_inv] at h1
          rw [List.map_cons, pairAt_ok I h1.of, ih q (fun x hx => hu x (by simp [hx])) r2]
      exact this ps xs (fun _ h => h) hr
    have e2 : ys.map (pairAt X.K H) = ps.mergeSort lexLe := by
      refine sorted_one lexLe_trans lexLe_total lexLe_anti ?_ ?_
      · have := hb.perm.map (pairAt X.K H)
        rwa [e1] at this
      · rw [List.pairwise_map]
        exact hs.imp fun h => lexB_le.mp h
    rw [← e2]
    exact key ys fun x hx => hb.perm.mem_iff.mp hx
theorem f_sorted (hK : g.K = X.K := by rfl) : FR X g (.builtin "sorted") sortedF := by
  refine ⟨_, cr_sortedI.or (cr_sortedD (g := g)), fun ρ S ds c vs H Q l r h q => ?_⟩
  unfold sortedF at h
  split at h
  · rename_i xs
    obtain ⟨v, rfl, r1⟩ := r.one
    obtain ⟨p, us, rfl, h1, h2⟩ := RepR.lst_inv r1
    cases e : intsOf xs with
    | some ns =>
      simp only [e] at h
      cases h
      have := intsOf_rep e h2
      subst this
      refine .inl ⟨p, ns, rfl, .of h1, fun ns' d pm so hd => ?_⟩
      have e2 : ns' = ns.mergeSort fun a b => decide (a ≤ b) := sorted_one (fun a b c h1 h2 => by simp only [decide_eq_true_eq] at *; omega) (fun a b => by simp only [Bool.or_eq_true, decide_eq_true_eq]; omega) (fun a b h1 h2 => by simp only [decide_eq_true_eq] at *; omega) pm (so.imp fun h => decide_eq_true h)
      rw [e2]
      exact new_lst l (ints_reps _) q d hd
    | none =>
      simp only [e] at h
      cases e2 : pairsOf xs with
      | none => rw [e2] at h; cases h
      | some ps =>
        rw [e2] at h
        cases h
        have := pairsOf_inv e2
        subst this
        rw [hK] at h2
        refine .inr ⟨bar g.F ρ, p, us, ps, rfl, h1, h2, fun zs d rz hd => ?_⟩
        rw [← hK] at rz
        exact new_lst l rz q d hd
  · cases h
end
/-! ### zip -/
def zipD (xs ys : List D) : List D := (xs.zip ys).map fun p => .tup [p.1, p.2]
def mZip (m : MA) : MI := fun w S => (m w S).bind fun xs S1 => match xs with
  | [.d (.lst a), .d (.lst b)] => .ok (zipD a b) S1
  | _ => .bad
section
variable {X : Cx} {g : G} {e e2 : Expr} {m : MA} {p pos tpos : Pos} {elts : List Expr} {kk : Nat}
theorem walks_zip {a b : Addr} {ds es : List D} {vs us : List V} {ρ : List (Option Addr)} {H : Hp} (h : H a = some (.lst vs)) (na : ¬ bar g.F ρ a) (r : Reps g.K H (bar g.F ρ) ds vs) (h2 : H b = some (.lst us)) (nb : ¬ bar g.F ρ b) (r2 : Reps g.K H (bar g.F ρ) es us) : Walks g (Itz g.K a b) (zipD ds es) ρ H := by
  intro F hF ρ' S' H' e l i
  have ev := e.ev2 hF
  have h' : SqL g.K H' a vs := .of (ev.keep _ _ h na)
  have h2' : SqL g.K H' b us := .of (ev.keep _ _ h2 nb)
  have r' := Reps.mono ev _ _ r
  have r2' := Reps.mono ev _ _ r2
  refine ⟨fun d hd => ?_, fun hi => ⟨vs, us, h', h2', ?_⟩⟩
  · unfold zipD at hd
    rw [List.getElem?_map] at hd
    cases ez : (ds.zip es)[i]? with
    | none => rw [ez] at hd; cases hd
    | some q =>
      rw [ez] at hd
      cases hd
      obtain ⟨q1, q2⟩ := List.getElem?_zip_eq_some.mp ez
      obtain ⟨v1, s1, t1⟩ := r'.get q1
      obtain ⟨v2, s2, t2⟩ := r2'.get q2
      refine ⟨⟨vs, us, v1, v2, h', h2', s1, s2⟩, fun x H'' y => ?_⟩
      obtain ⟨T, y1, y2, rfl, nT, rfl, z1, z2⟩ := y
      have a1 := z1 vs h'
      have a2 := z2 us h2'
      rw [s1] at a1; cases a1
      rw [s2] at a2; cases a2
      have ex : Ext ρ' H' ρ' (upd H' T (.tup [v1, v2])) := ext_new nT
      refine ⟨ex, rl_new l nT, Rep.tup (.inl ⟨.inl upd_same, new_nb l nT⟩) (Reps.cons (Rep.mono (ex.ev F) _ _ t1) (Reps.cons (Rep.mono (ex.ev F) _ _ t2) Reps.nil))⟩
  · have : (zipD ds es).length ≤ i := hi
    unfold zipD at this
    rw [List.length_map, List.length_zip] at this
    rw [r.length, r2.length]
    omega
theorem i_zip (hm : X.mg "zip" = none) (ha : DA X g [e, e2] m) (hg : Gl X "zip" := by rfl) (hs : starEach [e, e2] X.env = (false, eval e X.env) :: starEach [e2] X.env := by rfl) (hpl : (backTo pos (starEach [e2] X.env)).any (·.1) = false := by rfl) (hK : g.K = X.K := by rfl) :
    DI X g (.Tuple elts kk tpos) (.Call (.Name "zip" p) [e, e2] [] pos) (mZip m) := by
  refine PIw (pi_zip hg hm ha hs hpl) fun σ H R h => ?_
  obtain ⟨ρ, S, w, l, sl, h⟩ := h
  refine ⟨ρ, S, w, l, sl, Run.bnd h fun ρ1 S1 xs vs H1 e1 l1 r1 h1 => ?_⟩
  split at h1
  · rename_i ds es
    obtain ⟨v, r, rfl, q1, u, r', rfl, q2, rfl⟩ := r1
    obtain ⟨a, us, rfl, a1, a2, a3⟩ := Rep.lst_inv (K := g.K) (H := H1) (B := bar g.F ρ1) q1
    obtain ⟨b, ws, rfl, b1, b2, b3⟩ := Rep.lst_inv (K := g.K) (H := H1) (B := bar g.F ρ1) q2
    refine ⟨a, b, us, ws, rfl, .of a1, .of b1, ?_⟩
    have := Run.ok_ (rep := rI g) l1 (walks_zip (g := g) a1 a2 a3 b1 b2 b3) h1
    rwa [hK] at this
  · exact h1.elim
end
/-! ### list(range(..)) -/
def mLstRg (a b : ME) : ME := fun w S => (a w S).bind fun x S1 => (b w S1).bind fun y S2 => match x, y with
  | .d (.int i), .d (.int j) => if -(2 ^ 62) ≤ i ∧ i < 2 ^ 62 ∧ -(2 ^ 62) ≤ j ∧ j < 2 ^ 62 ∧ (j - i).toNat ≤ 2 ^ 24 then .ok (.d (.lst (rangeD i (j - i).toNat))) S2 else .bad
  | _, _ => .bad
section
variable {X : Cx} {g : G} {e : Expr} {ma : ME} {p p2 pos pos2 : Pos}
theorem d_lstRg1 (hc : X.calm = true) (hm : X.mg "range" = none) (hml : X.mg "list" = none) (ha : DE X g e ma) (hg : Gl X "range" := by rfl) (hgl : Gl X "list" := by rfl) (na : starEach [e] X.env = (false, eval e X.env) :: starEach [] X.env := by rfl)
    (na2 : starEach [.Call (.Name "range" p2) [e] [] pos2] X.env = (false, eval (.Call (.Name "range" p2) [e] [] pos2) X.env) :: starEach [] X.env := by rfl) : DE X g (.Call (.Name "list" p) [.Call (.Name "range" p2) [e] [] pos2] [] pos) (mLstRg (mC (.int 0)) ma) := by
  refine PEw (pe_listRg hc hgl hml (prg_1 hg hm ha na) na2) fun σ H Q h => ?_
  obtain ⟨ρ, S, w, l, sl, h⟩ := h
  have h : Run g (rW g) ((ma w S).bind fun y S2 => _) ρ σ H Q := h
  refine ⟨ρ, S, w, l, sl, Run.bnd h fun ρ1 S1 x v H1 e1 l1 r1 h1 => ?_⟩
  split at h1
  · rename_i i j hij
    cases hij
    split at h1
    · rename_i hz
      refine ⟨j, Rep.int_inv (K := g.K) (H := H1) (B := bar g.F ρ1) r1, hz, ?_⟩
      have e : rgV 0 j = (List.range (j - 0).toNat).map fun (i : Nat) => V.int (0 + (i : Int)) := rfl
      have rr : Reps g.K H1 (bar g.F ρ1) (rangeD 0 (j - 0).toNat) (rgV 0 j) := by
        unfold rangeD
        rw [e]
        generalize List.range (j - 0).toNat = is
        induction is with
        | nil => exact Reps.nil
        | cons k is ih => exact Reps.cons (Rep.int _) ih
      exact new_lst l1 rr h1
    · exact h1.elim
  · exact h1.elim
end
end Mi

namespace Mi
open PySem PySem.Spec PyProof.Rows L2

/-! ### defs by their names -/
def Has (K : PySem.W.Frag) (mg : Str → Option Value) (x : Str) (st : Stmt) (ps : List Str) : Prop := ∃ f fd, Fun K x x st f fd ∧ mg x = some (.ref f) ∧ Binds K fd ps []
def CP (P : Program) (w : World) (K : PySem.W.Frag) (mg : Str → Option Value) (base : Heap) (k : Nat) (x : Str) (F : List D → RP) : Prop := ∃ f fd ps, mg x = some (.ref f) ∧ PySem.W.keepIn K (.ref f) = true ∧ Binds K fd ps [] ∧ FnOk P w K mg base (L2N.CX P w) k f fd ps (spP K mg F)
def CS (P : Program) (w : World) (K : PySem.W.Frag) (mg : Str → Option Value) (base : Heap) (k : Nat) (x : Str) (F : List W → List C → R W) : Prop := ∃ f fd ps, mg x = some (.ref f) ∧ PySem.W.keepIn K (.ref f) = true ∧ Binds K fd ps [] ∧ FnOk P w K mg base (L2N.CX P w) k f fd ps (spS K mg F)
section
variable {P : Program} {w : World} {K : PySem.W.Frag} {mg : Str → Option Value} {base : Heap} {x : Str} {st : Stmt} {N ps : List Str} {k : Nat} {m : MS}
theorem cp_mk (h : Has K mg x st ps) (sc : FnScope N ps (defScope st))
    (hb : ∀ (cdv : Value) (A : Around) (outer : List Env) (s : Shared) (H : Hp) (E : XK) (f : Addr), Room k (A.deeper (envOfC x (defScope st) s.heap.objs.size f cdv)) → ∀ B : Addr → Prop,
      DSs (cxOf (L2N.CX P w) P w K mg base N x (defScope st) f cdv A outer s H E) ⟨K, mg, B, fun cls d _ H => E cls d H⟩ (defBody st) m) :
    CP P w K mg base (k + 1) x (runP ps.length N.length m) :=
  let ⟨f, fd, F, hm, hb'⟩ := h
  ⟨f, fd, ps, hm, F.kp, hb', def_P F sc fun cdv A outer s H E hr B => hb cdv A outer s H E f hr B⟩
theorem cs_mk (h : Has K mg x st ps) (sc : FnScope N ps (defScope st))
    (hb : ∀ (cdv : Value) (A : Around) (outer : List Env) (s : Shared) (H : Hp) (E : XK) (f : Addr), Room k (A.deeper (envOfC x (defScope st) s.heap.objs.size f cdv)) → ∀ B : Addr → Prop,
      DSs (cxOf (L2N.CX P w) P w K mg base N x (defScope st) f cdv A outer s H E) ⟨K, mg, B, fun cls d _ H => E cls d H⟩ (defBody st) m) :
    CS P w K mg base (k + 1) x (runS ps.length N.length m) :=
  let ⟨f, fd, F, hm, hb'⟩ := h
  ⟨f, fd, ps, hm, F.kp, hb', def_S F sc fun cdv A outer s H E hr B => hb cdv A outer s H E f hr B⟩
end
section
variable {X : Cx} {g : G} {k j : Nat} {x : Str} {p pos : Pos} {e : Expr} {es : List Expr} {m : MA}
theorem d_cp {F : List D → RP} (c : CP X.prog X.w X.K X.mg X.base k x F) (hr : Room k X.A) (tk : L2N.Takes X g.Wx)
    (ha : DA X g (e :: es) m) (hg : Gl X x := by rfl) (hK : g.K = X.K := by rfl) (hM : g.mg = X.mg := by rfl) (hdb : (x == ("__debug__" : Str)) = false := by decide) (he : starEach (e :: es) X.env = (false, eval e X.env) :: starEach es X.env := by rfl) (hpl : (backTo pos (starEach es X.env)).any (·.1) = false := by rfl) :
    DE X g (.Call (.Name x p) (e :: es) [] pos) (mCallP F m) :=
  let ⟨_, _, _, hm, hk, hb, Fo⟩ := c
  d_callP Fo hr hm hk hb tk ha hg hK hM hdb he hpl
theorem d_cs {F : List W → List C → R W} (c : CS X.prog X.w X.K X.mg X.base k x F) (hr : Room k X.A) (tk : L2N.Takes X g.Wx)
    (ha : DA X g (e :: es) m) (hg : Gl X x := by rfl) (hK : g.K = X.K := by rfl) (hM : g.mg = X.mg := by rfl) (hdb : (x == ("__debug__" : Str)) = false := by decide) (he : starEach (e :: es) X.env = (false, eval e X.env) :: starEach es X.env := by rfl) (hpl : (backTo pos (starEach es X.env)).any (·.1) = false := by rfl) :
    DE X g (.Call (.Name x p) (e :: es) [] pos) (mCallS F m) :=
  let ⟨_, _, _, hm, hk, hb, Fo⟩ := c
  d_callS Fo hr hm hk hb tk ha hg hK hM hdb he hpl
theorem d_glob {i : Int} (h : ∃ u, X.mg x = some u ∧ L2.RelV (.int i) u) (hg : Gl X x := by rfl) (hd : (x == ("__debug__" : Str)) = false := by decide) : DE X g (.Name x pos) (mC (.int i)) :=
  let ⟨_, hm, r⟩ := h
  PEw (pe_glob hg hm r hd) fun _ _ _ => le_c fun _ _ _ => .int i
end
/-- a, b = x, y -/
def sPar (i j : Nat) (m : MA) : MS := fun w S => (m w S).stm w fun xs S1 => match xs with
  | [x, y] => .nx ((w.set i (some x)).set j (some y)) S1
  | _ => .bad
section
variable {X : Cx} {g : G} {m : MA}
theorem s_par {i j : Nat} {x y : Str} {a b : Expr} {px py pt pos : Pos} {kt k2 pt2} (nd : X.N.Nodup) (ha : DA X g [a, b] m) (hc : X.calm = true := by rfl) (hi : X.N[i]? = some x := by rfl) (hj : X.N[j]? = some y := by rfl) (hij : i ≠ j := by decide)
    (hr : ∀ {ta : TA}, PA X [a, b] ta → PS X (.Assign [.Tuple [.Name x px, .Name y py] kt pt] (.Tuple [a, b] k2 pt2) pos) (tPar i j ta)) :
    DS X g (.Assign [.Tuple [.Name x px, .Name y py] kt pt] (.Tuple [a, b] k2 pt2) pos) (sPar i j m) := PSw (hr ha) fun D σ H h => by
  obtain ⟨ρ, S, w, l, sl, h⟩ := h
  refine ⟨ρ, S, w, l, sl, RunO.bnd sl h fun ρ1 S1 xs vs H1 e1 l1 r1 h1 => ?_⟩
  cases xs with
  | nil => exact h1.elim
  | cons x xs =>
    cases xs with
    | nil => exact h1.elim
    | cons y xs =>
      cases xs with
      | cons _ _ => exact h1.elim
      | nil =>
        obtain ⟨v, q, rfl, r2, u, q2, rfl, r3, rfl⟩ := r1
        exact ⟨v, u, rfl, RunO.nx_ l1 (((sl.mono e1).set r2).set r3) h1⟩
end
theorem bo_len : bootBuiltins "len" = some (.builtin "len") := by decide +kernel
theorem bo_int : bootBuiltins "int" = some (.type "int") := by decide +kernel
theorem bo_max : bootBuiltins "max" = some (.builtin "max") := by decide +kernel
theorem bo_min : bootBuiltins "min" = some (.builtin "min") := by decide +kernel
theorem bo_sum : bootBuiltins "sum" = some (.builtin "sum") := by decide +kernel
theorem bo_tuple : bootBuiltins "tuple" = some (.type "tuple") := by decide +kernel
theorem bo_list : bootBuiltins "list" = some (.type "list") := by decide +kernel
theorem bo_sorted : bootBuiltins "sorted" = some (.builtin "sorted") := by decide +kernel
theorem bo_bool : bootBuiltins "bool" = some (.type "bool") := by decide +kernel
theorem bo_str : bootBuiltins "str" = some (.type "str") := by decide +kernel
theorem ty_int : tyNames.all (fun n => decide (kitB n "int" = some (isTy "int" n))) = true := by decide +kernel
theorem ty_bool : tyNames.all (fun n => decide (kitB n "bool" = some (isTy "bool" n))) = true := by decide +kernel
theorem ty_str : tyNames.all (fun n => decide (kitB n "str" = some (isTy "str" n))) = true := by decide +kernel
theorem ty_tuple : tyNames.all (fun n => decide (kitB n "tuple" = some (isTy "tuple" n))) = true := by decide +kernel
theorem ty_list : tyNames.all (fun n => decide (kitB n "list" = some (isTy "list" n))) = true := by decide +kernel
end Mi

namespace Mi
open PySem PySem.Spec PyProof.Rows L2

/-! ### comprehensions: lists, sets, dicts; any number of clauses -/
inductive CK where
  | l (elt : Expr)
  | s (elt : Expr)
  | m (k v : Expr)
def CK.ex : CK → List Comprehension → Scope → Pos → Expr
  | .l e, gs, sc, p => .ListComp e gs sc p
  | .s e, gs, sc, p => .SetComp e gs sc p
  | .m k v, gs, sc, p => .DictComp k v gs sc p
def CK.em : CK → Value → Env → Sem Unit
  | .l elt, acc, env => do let _ ← call (.builtin "list.append") [acc, ← eval elt env]
  | .s elt, acc, env => do let v ← eval elt env; standAt elt.pos; let _ ← call (.builtin "set.add") [acc, v]
  | .m k v, acc, env => do
    let kv ← eval k env
    let vv ← holding [kv] (eval v env)
    match acc with
    | .ref d => do
      standAt { k.pos with endLine := v.pos.endLine, endCol := v.pos.endCol }
      holding [kv, vv] (dictSet d kv vv)
    | _ => unsupported "internal:dictcomp"
section
variable {c : CK} {gens : List Comprehension} {scope : Scope} {pos : Pos} {it acc : Value} {env : Env} {d : Nat} {tg it0 tg1 it1 : Expr} {ifs ifs1 : List Expr}
theorem compTurn_last (hg : gens[d]? = some ⟨tg, it0, ifs, 0⟩) (hn : gens[d + 1]? = none) : compTurn (c.ex gens scope pos) d it acc env = (do
      standAt it0.pos
      match ← pyNext it with
      | none => pure (.done .next)
      | some v =>
        letOwnedTupleGo tg it v
        assign tg env v
        let mut ok := true
        for c in ifs do
          if ok then ok ← isTrue c env (eval c env)
        if ok then
          c.em acc env
        again (.compLoop (c.ex gens scope pos) d it acc env)) := by
  cases c <;> (simp only [CK.ex, compTurn, hg, hn]; rfl)
theorem compTurn_more (hg : gens[d]? = some ⟨tg, it0, ifs, 0⟩) (hn : gens[d + 1]? = some ⟨tg1, it1, ifs1, 0⟩) : compTurn (c.ex gens scope pos) d it acc env = (do
      standAt it0.pos
      match ← pyNext it with
      | none => pure (.done .next)
      | some v =>
        letOwnedTupleGo tg it v
        assign tg env v
        let mut ok := true
        for c in ifs do
          if ok then ok ← isTrue c env (eval c env)
        if ok then
          let x ← eval it1 env
          standAt it1.pos
          let x ← foldedSetIterable it1 env x
          let _ ← runOwn (.compStart (c.ex gens scope pos) (d + 1) (← holding [x] (pyIter x)) acc env) env
        again (.compLoop (c.ex gens scope pos) d it acc env)) := by
  cases c <;> (simp only [CK.ex, compTurn, hg, hn]; rfl)
end
abbrev TM := L2.St → Hp → (Hp → Prop) → Prop
/-- what a turn does behind its tests: the emission, or the next clause -/
def EMw (prog : Program) (w : World) (A : Around) (c : CK) (gens : List Comprehension) (scope : Scope) (pos : Pos) (d : Nat) (acc : Value) (env : Env) (Q : Shared → Prop) (s : Shared) : Prop :=
  match gens[d + 1]? with
  | none => wpAny (model prog w) A (c.em acc env) (fun _ s' => Q s') (fun _ _ => False) s
  | some g1 => g1.is_async = 0 ∧ (∀ x, foldedSetIterable g1.iter env x = pure x) ∧ wpAny (model prog w) A (eval g1.iter env) (fun x s4 => wpAny (model prog w) A (pyIter x) (fun it1 s5 =>
      codeAny (model prog w) A (.compStart (c.ex gens scope pos) (d + 1) it1 acc env) (fun r s' => match r with
        | .ok _ => Q s'
        | .error _ => False) s5) (fun _ _ => False) s4) (fun _ _ => False) s
theorem compLoop_ck {prog : Program} {w : World} {A : Around} {R : Result → Shared → Prop} {s : Shared} {c : CK} {gens : List Comprehension} {tg it0 : Expr} {ifs : List Expr} {scope : Scope} {pos : Pos} {d : Nat} {it acc : Value} {env : Env} (hg : gens[d]? = some ⟨tg, it0, ifs, 0⟩) (ha : ∀ g1, gens[d + 1]? = some g1 → g1.is_async = 0) (I : Nat → Shared → Prop)
    (turn : ∀ n s, I n s → wpAny (model prog w) A (pyNext it) (fun r s₁ => match r with
      | none => R (.ok .next) s₁
      | some v => wpAny (model prog w) A (letOwnedTupleGo tg it v) (fun _ s₁' => wpAny (model prog w) A (assign tg env v) (fun _ s₂ =>
          wpAny (model prog w) A (forIn ifs true fun c r => if r = true then do let ok ← isTrue c env (eval c env); pure (ForInStep.yield ok) else pure (ForInStep.yield r)) (fun ok s₃ =>
            if ok = true then EMw prog w A c gens scope pos d acc env (fun s' => ∃ m, m < n ∧ I m s') s₃ else ∃ m, m < n ∧ I m s₃) (fun _ _ => False) s₂) (fun _ _ => False) s₁') (fun _ _ => False) s₁) (fun _ _ => False) s)
    (n : Nat) (h : I n s) :
    codeAny (model prog w) A (.compLoop (c.ex gens scope pos) d it acc env) R s := by
  refine codeAny_loop rfl I (fun n s hI => ?_) n h
  rw [show A.under (Code.compLoop (c.ex gens scope pos) d it acc env) = A from by cases c <;> rfl]
  rw [show (model prog w).den (Code.compLoop (c.ex gens scope pos) d it acc env) = (compTurn (c.ex gens scope pos) d it acc env).onRaise (fun x => do noteFrame x env; theTreesLotGoes x) from by cases c <;> rfl]
  refine wpAny_noted ?_
  cases hn : gens[d + 1]? with
  | none =>
    rw [compTurn_last hg hn]
    refine wpAny_bind (wpAny_standAt (wpAny_bind (wpAny_mono (turn n s hI) (fun r s₁ h₁ => ?_) fun _ _ h' => h'.elim)))
    cases r with
    | none => exact wpAny_pure h₁
    | some v =>
      refine wpAny_bind (wpAny_mono h₁ (fun _ s₁' h₁' => ?_) fun _ _ h' => h'.elim)
      refine wpAny_bind (wpAny_mono h₁' (fun _ s₂ h₂ => wpAny_bind (wpAny_mono h₂ (fun ok s₃ h₃ => ?_) fun _ _ h' => h'.elim)) fun _ _ h' => h'.elim)
      cases ok with
      | false => exact wpAny_pure ⟨rfl, h₃⟩
      | true =>
        rw [if_pos rfl] at h₃
        unfold EMw at h₃
        rw [hn] at h₃
        exact wpAny_bind (wpAny_mono h₃ (fun _ s₅ h₅ => wpAny_pure ⟨rfl, h₅⟩) fun _ _ h' => h'.elim)
  | some g1 =>
    obtain ⟨tg1, it1, ifs1, z⟩ := g1
    by_cases hz : z = 0
    · subst hz
      rw [compTurn_more hg hn]
      refine wpAny_bind (wpAny_standAt (wpAny_bind (wpAny_mono (turn n s hI) (fun r s₁ h₁ => ?_) fun _ _ h' => h'.elim)))
      cases r with
      | none => exact wpAny_pure h₁
      | some v =>
        refine wpAny_bind (wpAny_mono h₁ (fun _ s₁' h₁' => ?_) fun _ _ h' => h'.elim)
        refine wpAny_bind (wpAny_mono h₁' (fun _ s₂ h₂ => wpAny_bind (wpAny_mono h₂ (fun ok s₃ h₃ => ?_) fun _ _ h' => h'.elim)) fun _ _ h' => h'.elim)
        cases ok with
        | false => exact wpAny_pure ⟨rfl, h₃⟩
        | true =>
          rw [if_pos rfl] at h₃
          unfold EMw at h₃
          rw [hn] at h₃
          obtain ⟨_, hs, h₃⟩ := h₃
          refine wpAny_bind (wpAny_mono h₃ (fun x s₄ h₄ => ?_) fun _ _ h' => h'.elim)
          refine wpAny_bind (wpAny_standAt (wpAny_bind (wpAny_of_eq (hs x) (wpAny_bind (wpAny_holding (wpAny_mono h₄ (fun it1 s₅ h₅ => ?_) fun _ _ h' => h'.elim))))))
          refine wpAny_bind (wpAny_runOwn ?_)
          rw [Around.mark_none]
          refine codeAny_mono h₅ fun r s' hr => ?_
          cases r with
          | ok f =>
            first
              | exact wpAny_pure ⟨rfl, hr⟩
              | exact wpAny_bind (wpAny_pure (wpAny_pure ⟨rfl, hr⟩))
          | error e => exact hr.elim
    · exact absurd (ha _ hn) hz
/-- the start of a clause -/
theorem compStart_ck {prog : Program} {w : World} {A : Around} {R : Result → Shared → Prop} {s : Shared} {c : CK} {gens : List Comprehension} {tg it0 : Expr} {ifs : List Expr} {scope : Scope} {pos : Pos} {d : Nat} {it acc : Value} {env : Env} (hg : gens[d]? = some ⟨tg, it0, ifs, 0⟩)
    (h0 : codeAny (model prog w) A (.compLoop (c.ex gens scope pos) d it acc env) R s)
    (h : wpAny (model prog w) A (pyIter it) (fun it' s' => codeAny (model prog w) A (.compLoop (c.ex gens scope pos) d it' acc env) R s')
      (notedBy (model prog w) A env fun x s' => R (.error x) s') s) :
    codeAny (model prog w) A (.compStart (c.ex gens scope pos) d it acc env) R s := by
  refine codeAny_of_tree ?_
  rw [show A.under (Code.compStart (c.ex gens scope pos) d it acc env) = A from by cases c <;> rfl]
  rw [show (model prog w).den (Code.compStart (c.ex gens scope pos) d it acc env) = (compStart (c.ex gens scope pos) d it acc env).onRaise (fun x => do noteFrame x env; standAt theWindowsPlace) from by cases c <;> rfl]
  refine wpAny_notedAt ?_
  unfold compStart
  have hgc : (clausesOf (c.ex gens scope pos))[d]? = some ⟨tg, it0, ifs, 0⟩ := by cases c <;> exact hg
  simp only [hgc]
  show wpAny _ _ (ask >>= _) _ _ s
  refine wpAny_bind (wpAny_askSetting (wpAny_ite ?_))
  split
  · first
      | exact wpAny_bind (wpAny_pure (wpAny_pure (And.intro rfl h0)))
      | exact wpAny_pure (And.intro rfl h0)
  · first
      | exact wpAny_bind (wpAny_rule (wpAny_bind (wpAny_standAt (wpAny_bind (wpAny_mono h (fun it' s' h' => wpAny_pure (And.intro rfl h')) fun _ _ x => x)))))
      | (refine wpAny_bind (wpAny_rule ?_); show wpAny _ _ (standAt it0.pos >>= _) _ _ s; exact wpAny_bind (wpAny_standAt (wpAny_bind (wpAny_mono h (fun it' s' h' => wpAny_pure (And.intro rfl h')) fun _ _ x => x))))
end Mi

namespace Mi
open PySem PySem.Spec PyProof.Rows L2
/-- what a turn does behind its tests: it leaves the slots but those of the deeper clauses -/
structure PM (X : Cx) (c : CK) (gens : List Comprehension) (scope : Scope) (pos : Pos) (d : Nat) (D : Addr) (vs : List Nat) (t : TM) : Prop where
  run : ∀ (pins : List (Addr × Obj)) (s : Shared) (σ : L2.St) (H : Hp) (Q : Hp → Prop), Inv X pins σ H s → t σ H Q →
    EMw X.prog X.w X.A c gens scope pos d (.ref D) X.env (fun s' => ∃ H', Inv X pins (L2.wipe σ vs) H' s' ∧ Q H') s
def tLoop (J : It) (g : TG) (tt : TT) (em : TM) (vs : List Nat) : TM := fun σ H Q => ∃ W : Nat → Nat → Hp → Prop, (∃ m, W 0 m H) ∧ ∀ i m H, W i m H →
  (J.stop i H ∧ Q H) ∨ (J.go i H ∧ ∃ Nx : Hp → Prop, (∀ H', Nx H' → ∃ m', m' < m ∧ W (i + 1) m' H') ∧ ∀ x H', J.yld i H x H' → g x (L2.wipe σ vs) H' fun σ2 H2 => L2.wipe σ2 vs = L2.wipe σ vs ∧ tt σ2 H2 fun b H3 =>
    if b = true then em σ2 H3 Nx else Nx H3)
def tNest (wi : TI) (g : TG) (tt : TT) (em : TM) (vs : List Nat) : TM := fun σ H Q => wi σ H fun J H1 => tLoop J g tt em vs σ H1 Q
theorem loop_ck {X : Cx} {c : CK} {gens : List Comprehension} {scope : Scope} {pos : Pos} {d : Nat} {D : Addr} {tg it0 : Expr} {ifs : List Expr} {vs vs1 : List Nat} {g : TG} {tt : TT} {em : TM} {J : It} {fp : List Addr} {it : Addr} {tn : Nat → Heap → Prop}
    {pins : List (Addr × Obj)} {s : Shared} {σ : L2.St} {H : Hp} {Q : Hp → Prop} (hc : X.calm = true) (hxe : X.xe = fun _ _ => False) (hg : gens[d]? = some ⟨tg, it0, ifs, 0⟩) (ha : ∀ g1, gens[d + 1]? = some g1 → g1.is_async = 0)
    (pg : PG X tg g) (pt : PTs X ifs tt) (pm : PM X c gens scope pos d D vs1 em) (hv : ∀ i ∈ vs1, i ∈ vs) (T : Turn X.prog X.w X.K tg J fp it tn) (st : tn 0 s.heap) (nf : ∀ b ∈ fp, H b = none)
    (hfp : ∀ (σ' : L2.St) (H' : Hp) (s' : Shared), Inv X pins σ' H' s' → (∀ b ∈ fp, H' b = none) → ∀ b ∈ fp, FpOk X pins H' b) (I : Inv X pins (L2.wipe σ vs) H s) (h : tLoop J g tt em vs σ H Q) :
    codeAny (model X.prog X.w) X.A (.compLoop (c.ex gens scope pos) d (.ref it) (.ref D) X.env) (fun r s' => match r with
      | .ok _ => ∃ H', Inv X pins (L2.wipe σ vs) H' s' ∧ Q H'
      | .error _ => False) s := by
  obtain ⟨W, ⟨m0, w0⟩, turn⟩ := h
  refine compLoop_ck hg ha (fun n s' => ∃ i H', Inv X pins (L2.wipe σ vs) H' s' ∧ tn i s'.heap ∧ (∀ b ∈ fp, H' b = none) ∧ W i n H') ?_ m0 ⟨0, H, I, st, nf, w0⟩
  rintro n s5 ⟨i, H5, I5, st5, n5, w5⟩
  rcases turn i n H5 w5 with ⟨stop, qq⟩ | ⟨go, Nx, hNx, step⟩
  · have td := T.done X rfl rfl rfl hc i pins s5 _ H5 (fun _ _ => False) I5 (hfp _ _ _ I5 n5) st5 stop
    refine thnF td fun r s6 ⟨hr, I6⟩ => ?_
    subst hr
    exact ⟨H5, I6, qq⟩
  · have ti := T.item X rfl rfl rfl hc i pins s5 _ H5 (fun _ _ => False) I5 (hfp _ _ _ I5 n5) st5 go
    refine thnF ti fun r s6 ⟨u, hr, h6⟩ => ?_
    subst hr
    refine thnF h6 fun _ s7 ⟨x, H7, I7, r7, y7, st7, n7⟩ => ?_
    have I7' := I7.pinned (hfp _ _ _ I7 n7) (T.obj _ _ st7)
    have r1 := pg.run _ s7 _ H7 x u _ I7' r7 (step x H7 y7)
    rw [hxe] at r1
    refine thnF r1 fun _ s8 ⟨σ8, H8, I8, hw8, q8⟩ => ?_
    have r2 := pt.run _ s8 σ8 H8 _ I8 q8
    rw [hxe] at r2
    refine thnF r2 fun b s9 ⟨H9, I9, q9⟩ => ?_
    have fin : ∀ {σ9 : L2.St} {s' : Shared} {H' : Hp}, Inv X (pins ++ pinsAt fp s7.heap) σ9 H' s' → (L2.wipe σ vs).length = σ9.length → (∀ (j : Nat) v, (L2.wipe σ vs)[j]? = some (some v) → σ9[j]? = some (some v)) → Nx H' →
        ∃ m, m < n ∧ ∃ i H', Inv X pins (L2.wipe σ vs) H' s' ∧ tn i s'.heap ∧ (∀ b ∈ fp, H' b = none) ∧ W i m H' := fun {σ9 s' H'} I' hl hk nx => by
      obtain ⟨m', hm, w'⟩ := hNx H' nx
      have pin' : ∀ b ∈ fp, ∀ o, s7.heap.get? b = some o → s'.heap.get? b = some o ∧ H' b = none := fun b hb o e =>
        let z := I'.pin (b, o) (List.mem_append_right _ (List.mem_append_right _ (mem_pinsAt hb e)))
        ⟨z.1, z.2.1⟩
      refine ⟨m', hm, i + 1, H', (I'.unpinned (pins := pins)).weak hl hk, T.keep _ _ _ st7 fun b hb o e => (pin' b hb o e).1, fun b hb => ?_, w'⟩
      obtain ⟨o, e, _⟩ := T.obj _ _ st7 b hb
      exact (pin' b hb o e).2
    have hl8 : (L2.wipe σ vs).length = σ8.length := by rw [← hw8, L2.wipe_length]
    have hk8 : ∀ (j : Nat) v, (L2.wipe σ vs)[j]? = some (some v) → σ8[j]? = some (some v) := fun j v e => by
      rw [← hw8] at e
      exact (wipe_some e).1
    have hk9 : ∀ (j : Nat) v, (L2.wipe σ vs)[j]? = some (some v) → (L2.wipe σ8 vs1)[j]? = some (some v) := fun j v e => by
      rw [← hw8] at e
      obtain ⟨e1, e2⟩ := wipe_some e
      rw [wipe_out fun z => e2 (hv j z)]
      exact e1
    cases b with
    | false =>
      simp only [Bool.false_eq_true, if_false] at q9 ⊢
      exact fin I9 hl8 hk8 q9
    | true =>
      simp only [if_true] at q9 ⊢
      have r3 := pm.run _ s9 σ8 H9 Nx I9 q9
      unfold EMw at r3 ⊢
      have conv : ∀ s', (∃ H', Inv X (pins ++ pinsAt fp s7.heap) (L2.wipe σ8 vs1) H' s' ∧ Nx H') → ∃ m, m < n ∧ ∃ i H', Inv X pins (L2.wipe σ vs) H' s' ∧ tn i s'.heap ∧ (∀ b ∈ fp, H' b = none) ∧ W i m H' := fun s' ⟨H', I', nx⟩ => fin I' (hl8.trans (L2.wipe_length σ8 vs1).symm) hk9 nx
      cases hn : gens[d + 1]? with
      | none =>
        rw [hn] at r3
        exact thnF r3 fun _ s' z => conv s' z
      | some g1 =>
        rw [hn] at r3
        refine ⟨r3.1, r3.2.1, thnF r3.2.2 fun x s4 z => thnF z fun it1 s5 z => codeAny_mono z fun r s' hr => ?_⟩
        cases r with
        | ok f => exact conv s' hr
        | error e => exact hr
/-- the next clause -/
theorem pm_nest {X : Cx} {c : CK} {gens : List Comprehension} {scope : Scope} {pos : Pos} {d : Nat} {D : Addr} {tg it0 : Expr} {ifs : List Expr} {vs vs1 : List Nat} {wi : TI} {g : TG} {tt : TT} {em : TM} (hc : X.calm = true) (hxe : X.xe = fun _ _ => False)
    (hg : gens[d + 1]? = some ⟨tg, it0, ifs, 0⟩) (ha : ∀ g1, gens[d + 1 + 1]? = some g1 → g1.is_async = 0) (hs : ∀ x, foldedSetIterable it0 X.env x = pure x)
    (pi : PI X tg it0 wi) (pg : PG X tg g) (pt : PTs X ifs tt) (pm : PM X c gens scope pos (d + 1) D vs1 em) (hv : ∀ i ∈ vs1, i ∈ vs) :
    PM X c gens scope pos d D vs (tNest wi g tt em vs) := by
  refine ⟨fun pins s σ H Q I h => ?_⟩
  unfold EMw
  rw [hg]
  refine ⟨rfl, hs, ?_⟩
  have r1 := pi.run _ s σ H _ I h
  rw [hxe] at r1
  refine thnF r1 fun xv s10 hx => thnF hx fun itv s11 h11 => ?_
  obtain ⟨it1, fp1, tn1, J1, H11, e1, I11, T1, st11, f11, q⟩ := h11
  subst e1
  have I11' : Inv X pins (L2.wipe σ vs) H11 s11 := I11.weak (L2.wipe_length _ _) (fun j v e => (wipe_some e).1)
  have lp := loop_ck hc hxe hg ha pg pt pm hv T1 st11 (fun b hb => (f11 b hb).1) (fun σ' H' s' I' hn b hb => ⟨hn b hb, (f11 b hb).2⟩) I11' q
  exact compStart_ck hg lp (T1.self X.A 0 _ _ _ st11 lp)
/-- [elt ..] -/
theorem pm_l {X : Cx} {elt : Expr} {gens : List Comprehension} {scope : Scope} {pos : Pos} {d : Nat} {D : Addr} {te : TE} (hxe : X.xe = fun _ _ => False) (hg : gens[d + 1]? = none) (pe : PE X elt te) :
    PM X (.l elt) gens scope pos d D [] (fun σ H Q => te σ H fun y H4 => ∃ acc, H4 D = some (.lst acc) ∧ acc.length < sizeLine ∧ Q (upd H4 D (.lst (acc ++ [y])))) := by
  refine ⟨fun pins s σ H Q I h => ?_⟩
  unfold EMw
  rw [hg]
  have r1 := pe.run _ s σ H _ I h
  rw [hxe] at r1
  exact wpAny_bind (thnF r1 fun z s10 ⟨yv, H10, I10, r10, acc, hD10, hz10, nx⟩ => wpAny_bind (app_ok I10 hD10 hz10 r10 fun s11 I11 => wpAny_pure ⟨_, I11, nx⟩))
/-- {elt ..}, ints -/
theorem pm_s {X : Cx} {elt : Expr} {gens : List Comprehension} {scope : Scope} {pos : Pos} {d : Nat} {D : Addr} {te : TE} (hxe : X.xe = fun _ _ => False) (hg : gens[d + 1]? = none) (pe : PE X elt te) :
    PM X (.s elt) gens scope pos d D [] (fun σ H Q => te σ H fun y H4 => rSAdd X.w (.ref D) [y] H4 fun _ H5 => Q H5) := by
  refine ⟨fun pins s σ H Q I h => ?_⟩
  unfold EMw
  rw [hg]
  have r1 := pe.run _ s σ H _ I h
  rw [hxe] at r1
  refine wpAny_bind (thnF r1 fun z s10 ⟨yv, H10, I10, r10, nx⟩ => wpAny_bind (wpAny_standAt (wpAny_bind ?_)))
  have r2 := mt_sadd pins s10 σ H10 (.ref D) [yv] (.ref D) [z] _ I10 rfl (.cons r10 .nil) nx
  rw [hxe] at r2
  exact thnF r2 fun u s11 ⟨v, H11, I11, _, q⟩ => wpAny_pure ⟨_, I11, q⟩
/-- the whole; o0: the new object -/
theorem comp_core {X : Cx} {pins : List (Addr × Obj)} {s : Shared} {σ : L2.St} {H : Hp} {Q : VK} {c : CK} {rest : List Comprehension} {tg iter : Expr} {ifs : List Expr} {scope : Scope} {own : List (Str × Nat)} {vs1 : List Nat} {pos pos' : Pos} {wi : TI} {g : TG} {tt : TT} {em : Addr → TM} {use : Option (Value → Sem Unit)} {Qf : Value → Shared → Prop}
    {newAcc : Sem Value} {o0 : Addr → HO} {dd : Data} {TT : String}
    (hnew : ∀ (s : Shared) (Q : Value → Shared → Prop), Q (.ref s.heap.objs.size) { s with heap := s.heap.push { cls := .type TT, dict := none, data := dd } } → wpAny (model X.prog X.w) X.A newAcc Q X.xe s)
    (hob : ∀ (H : Hp) (h : Heap), ObjOk X.prog X.w H (h.push { cls := .type TT, dict := none, data := dd }) h.objs.size (o0 h.objs.size))
    (hc : X.calm = true) (hN : X.N.Nodup) (I : Inv X pins σ H s) (hi : PI X tg iter wi) (ok : BlkOk X.N X.env.scope scope own) (hv : ∀ i ∈ vs1, i ∈ own.map (·.2)) (ha : ∀ g1, rest[0]? = some g1 → g1.is_async = 0)
    (hg : ∀ (s : Shared) (H : Hp) (C : Addr) (cl : List (Str × Addr)) (fp : List Addr), PG (X.blk s H scope (compEnvC scope cl C X.env) fp) tg g) (ht : ∀ (s : Shared) (H : Hp) (C : Addr) (cl : List (Str × Addr)) (fp : List Addr), PTs (X.blk s H scope (compEnvC scope cl C X.env) fp) ifs tt)
    (he : ∀ (s : Shared) (H : Hp) (C : Addr) (cl : List (Str × Addr)) (fp : List Addr) (D : Addr), PM (X.blk s H scope (compEnvC scope cl C X.env) fp) c (⟨tg, iter, ifs, 0⟩ :: rest) scope pos 0 D vs1 (em D)) (hs : ∀ x, foldedSetIterable iter X.env x = pure x)
    (h : wi σ H fun J H1 => ∀ D, H1 D = none → tLoop J g tt (em D) (own.map (·.2)) σ (upd H1 D (o0 D)) (fun H' => Q (.ref D) H'))
    (hRR : ∀ D C s' m H', Inv X pins σ H' s' → Q (.ref D) H' → s'.heap.Ns C m → FpOk X pins H' C → compPost (model X.prog X.w) X.A X.xe use Qf (.ref D) C (.ok .next) s') :
    wpAny (model X.prog X.w) X.A (comprehension (c.ex (⟨tg, iter, ifs, 0⟩ :: rest) scope pos) scope X.env pos' newAcc false (eval iter X.env) use) Qf X.xe s := by
  have hfree : ∀ y ∈ scope.names, y.2 = .free → ∃ c, X.env.cells.lookup y.1 = some c := fun y hy e => by
    rcases ok.free y hy e with k | k
    · exact I.ok.has _ (.inl k)
    · exact I.ok.has _ (.inr k)
  refine wpAny_comprehension_free (use := use) (g := ⟨tg, iter, ifs, 0⟩) (gs := rest) (by cases c <;> rfl) hs (closure_ok hfree) ok.kind (fun y hy e => by rw [ok.uniq y hy, e])
    (thn (hi.run pins s σ H _ I h) fun xv s1 hx => thn hx fun itv s2 h2 => ?_)
  obtain ⟨it, fp, tn, J, H2, e, I2, T, st2, f2, q⟩ := h2
  subst e
  refine hnew _ _ (newEnv_comp ?_)
  generalize hD : s2.heap.objs.size = D
  have hDn : H2 D = none := I2.hok.fresh (Nat.le_of_eq hD)
  have lp := q D hDn
  generalize hs3 : ({ s2 with heap := s2.heap.push { cls := .type TT, dict := none, data := dd } } : Shared) = s3
  have I3 : Inv X pins σ (upd H2 D (o0 D)) s3 := by
    rw [← hs3]
    refine I2.laid (t' := s2.toks) (fun b o e => Heap.get?_push_of_some _ e) (Nat.le_of_eq hD) ?_
    rw [← hD]
    exact hob _ _
  have h3 : s3.heap = s2.heap.push { cls := .type TT, dict := none, data := dd } := by rw [← hs3]
  have sz : ∀ b ∈ fp, b < s2.heap.objs.size := fun b hb => by
    obtain ⟨o, e, _⟩ := T.obj _ _ st2 b hb
    exact Heap.lt_size e
  have f3 : ∀ b ∈ fp, FpOk X pins (upd H2 D (o0 D)) b ∧ b < s3.heap.objs.size := fun b hb => by
    have hlt := sz b hb
    refine ⟨⟨?_, (f2 b hb).2⟩, by rw [h3, Heap.size_push]; exact Nat.lt_succ_of_lt hlt⟩
    rw [upd_ne (by rw [← hD]; exact Nat.ne_of_lt hlt)]
    exact (f2 b hb).1
  have st3 : tn 0 s3.heap := T.keep _ _ _ st2 fun b _ o e => by rw [h3]; exact Heap.get?_push_of_some _ e
  have I4 := block_start I3 ok hN f3
  have pg := hg s3 (upd H2 D (o0 D)) s3.heap.objs.size (cellsFrom (s3.heap.objs.size + 1) scope.names (cloFrom X.env.cells scope.names [])) fp
  have pt := ht s3 (upd H2 D (o0 D)) s3.heap.objs.size (cellsFrom (s3.heap.objs.size + 1) scope.names (cloFrom X.env.cells scope.names [])) fp
  have pe := he s3 (upd H2 D (o0 D)) s3.heap.objs.size (cellsFrom (s3.heap.objs.size + 1) scope.names (cloFrom X.env.cells scope.names [])) fp D
  show codeAny _ _ (.compStart (c.ex (⟨tg, iter, ifs, 0⟩ :: rest) scope pos) 0 (.ref it) (.ref D) (compEnvC scope (cellsFrom (s3.heap.objs.size + 1) scope.names (cloFrom X.env.cells scope.names [])) s3.heap.objs.size X.env)) (compPost (model X.prog X.w) X.A X.xe use Qf (.ref D) s3.heap.objs.size) { s3 with heap := pushCells (s3.heap.push { cls := .type "dict", data := .dict #[] }) scope.names }
  have nfp : ∀ b ∈ fp, (upd H2 D (o0 D)) b = none := fun b hb => (f3 b hb).1.1
  generalize hce : compEnvC scope (cellsFrom (s3.heap.objs.size + 1) scope.names (cloFrom X.env.cells scope.names [])) s3.heap.objs.size X.env = ce at I4 pg pt pe ⊢
  have cL : ce.locals = s3.heap.objs.size := by subst hce; rfl
  generalize hH3 : upd H2 D (o0 D) = H3 at I3 I4 pg pt pe lp nfp f3
  generalize hs4 : ({ s3 with heap := pushCells (s3.heap.push { cls := .type "dict", data := .dict #[] }) scope.names } : Shared) = s4 at I4 ⊢
  have st4 : tn 0 s4.heap := T.keep _ _ _ st3 fun b _ o e => by rw [← hs4]; exact pushCells_keeps _ _ _ _ (Heap.get?_push_of_some _ e)
  have loop := loop_ck (X := X.blk s3 H3 scope ce fp) (pins := []) (d := 0) (gens := ⟨tg, iter, ifs, 0⟩ :: rest) hc rfl rfl ha pg pt pe hv T st4 nfp
    (fun σ' H' s' I' hn b hb => ⟨hn b hb, (I'.ok.exf b hb).1, I'.ok.exfs b hb, .inl hb, fun x c e => (I'.ok.exf b hb).2 x c e, fun p hp => absurd (show p ∈ ([] : List (Addr × Obj)) ++ [] from hp) (by simp)⟩) I4 lp
  have loop2 : codeAny (model X.prog X.w) X.A (.compLoop (c.ex (⟨tg, iter, ifs, 0⟩ :: rest) scope pos) 0 (.ref it) (.ref D) ce) (compPost (model X.prog X.w) X.A X.xe use Qf (.ref D) s3.heap.objs.size) s4 := codeAny_mono loop fun r s6 hr => by
    cases r with
    | error e => exact hr.elim
    | ok f =>
      obtain ⟨H5, I6, qq⟩ := hr
      have I7 : Inv X pins σ H5 s6 := I3.call' (ch := fp) I6.os I6.base I6.hok I6.bare fun b hb => ⟨(f3 b hb).1.2.2.2.1, (f3 b hb).1.2.1, (f3 b hb).1.2.2.2.2.1, (f3 b hb).1.2.2.2.2.2⟩
      have nC : H5 s3.heap.objs.size = none := by
        have z : H5 ce.locals = none := I6.free
        rw [cL] at z
        exact z
      obtain ⟨m, hn, _⟩ := I6.loc
      have hn : s6.heap.Ns ce.locals m := hn
      rw [cL] at hn
      have z := hRR D s3.heap.objs.size s6 m H5 I7 qq hn (I3.fpOk (Nat.le_refl _) nC)
      cases use <;> exact z
  exact compStart_ck (d := 0) rfl loop2 (T.self X.A 0 _ _ _ st4 loop2)
end Mi

namespace Mi
open PySem PySem.Spec PyProof.Rows L2
/-! ### comprehensions, the mirrors: α what has been gathered -/
section
variable {α : Type}
abbrev EM (α : Type) := α → Lw → List C → R α
def loopD (t : MG) (tt : MT) (em : EM α) : List D → EM α
  | [], acc, _, S => .ok acc S
  | d :: ds, acc, w, S => (t (.d d) w S).nox.bind fun w1 S1 => (tt w1 S1).nox.bind fun k S2 => (if k = true then em acc w1 S2 else .ok acc S2).bind fun acc S3 => loopD t tt em ds acc w S3
def mNest (mi : MI) (vs : List Nat) (t : MG) (tt : MT) (em : EM α) : EM α := fun acc w S => (mi w S).nox.bind fun ds S1 => loopD t tt em ds acc (forget vs w) S1
/-- what stands for what has been gathered; it stays while other things run -/
structure ACk (g : G) (AC : α → Hp → List (Option Addr) → Prop) : Prop where
  keep : ∀ a (ρ ρ' : List (Option Addr)) S S' H H', Rl g.K g.F ρ S H → AC a H ρ → Ext ρ H ρ' H' → Rl g.K g.F ρ' S' H' → AC a H' ρ'
def RunM (g : G) (D : Addr) (AC : α → Hp → List (Option Addr) → Prop) (r : R α) (ρ : List (Option Addr)) (H : Hp) (Q : Hp → Prop) : Prop := match r with
  | .ok a S => ∀ ρ' H', XF (· = D) ρ H ρ' H' → Rl g.K g.F ρ' S H' → AC a H' ρ' → Q H'
  | _ => False
def LM (g : G) (D : Addr) (AC : α → Hp → List (Option Addr) → Prop) (em : EM α) : TM := fun σ H Q => ∃ ρ S w acc, Rl g.K g.F ρ S H ∧ Slots g.K H g.F ρ w σ ∧ AC acc H ρ ∧ RunM g D AC (em acc w S) ρ H Q
theorem RunM.mono {g : G} {D : Addr} {AC : α → Hp → List (Option Addr) → Prop} {r : R α} {ρ ρ1 : List (Option Addr)} {H H1 : Hp} {Q : Hp → Prop} (e : XF (· = D) ρ H ρ1 H1) (h : RunM g D AC r ρ H Q) : RunM g D AC r ρ1 H1 Q := by
  cases r with
  | ok a S => exact fun ρ' H' e' l r => h ρ' H' (e.trans e') l r
  | exc x S => exact h
  | bad => exact h
theorem RunM.bnd {γ : Type} {g : G} {D : Addr} {AC : α → Hp → List (Option Addr) → Prop} {rc : Hp → List (Option Addr) → γ → β → Prop} {m : R γ} {k : γ → List C → R α} {ρ : List (Option Addr)} {σ : L2.St} {H : Hp} {Q : Hp → Prop} {T : β → Hp → Prop}
    (h : RunM g D AC (m.nox.bind k) ρ H Q) (hk : ∀ ρ1 S1 a v H1, Ext ρ H ρ1 H1 → Rl g.K g.F ρ1 S1 H1 → rc H1 ρ1 a v → RunM g D AC (k a S1) ρ1 H1 Q → T v H1) : Run g rc m ρ σ H T := by
  cases m with
  | ok a S1 => exact fun ρ1 H1 v e l rv => hk ρ1 S1 a v H1 e l rv (RunM.mono e.xf h)
  | exc x S1 => exact h.elim
  | bad => exact h.elim
theorem RunM.bndM {g : G} {D : Addr} {AC : α → Hp → List (Option Addr) → Prop} {m : R α} {k : α → List C → R α} {ρ : List (Option Addr)} {H : Hp} {Q T : Hp → Prop}
    (h : RunM g D AC (m.bind k) ρ H Q) (hk : ∀ ρ1 S1 a H1, XF (· = D) ρ H ρ1 H1 → Rl g.K g.F ρ1 S1 H1 → AC a H1 ρ1 → RunM g D AC (k a S1) ρ1 H1 Q → T H1) : RunM g D AC m ρ H T := by
  cases m with
  | ok a S1 => exact fun ρ1 H1 e l rv => hk ρ1 S1 a H1 e l rv (RunM.mono e h)
  | exc x S1 => exact h.elim
  | bad => exact h.elim
theorem XF.le {E F : Addr → Prop} {ρ ρ' : List (Option Addr)} {H H' : Hp} (a : XF E ρ H ρ' H') (i : ∀ b, E b → F b) : XF F ρ H ρ' H' := ⟨fun b o h n => a.keep b o h fun z => n (z.imp (i b) id), a.len, a.old, fun b m => (a.new b m).imp id (Or.imp id (i b))⟩
theorem XF.RepW {K : PySem.W.Frag} {F : Addr → Prop} {ρ ρ' : List (Option Addr)} {H H' : Hp} (a : XF F ρ H ρ' H') : ∀ {x : W} {v : V}, RepW K H F ρ x v → RepW K H' F ρ' x v
  | .d x, v, h => Rep.mono (a.ev2 fun _ h => .inl h) x v h
  | .l n, v, h => ⟨Nat.lt_of_lt_of_le h.1 a.len, fun b q => h.2 b (a.old n b h.1 q)⟩
theorem XF.slots {K : PySem.W.Frag} {F : Addr → Prop} {ρ ρ' : List (Option Addr)} {H H' : Hp} (a : XF F ρ H ρ' H') {w : Lw} {σ : L2.St} (h : Slots K H F ρ w σ) : Slots K H' F ρ' w σ := ⟨h.1, fun i x e => let ⟨v, q, r⟩ := h.2 i x e; ⟨v, q, a.RepW r⟩⟩
/-- the loop of a clause -/
theorem lm_loop {g : G} {D : Addr} (hD : g.F D) {AC : α → Hp → List (Option Addr) → Prop} (ak : ACk g AC) {J : It} {t : MG} {tt : MT} {em : EM α} {is js : List Nat} (hij : ∀ i ∈ is, i ∈ js) {σ : L2.St} {H : Hp} {Q : Hp → Prop} {ρ : List (Option Addr)} {S : List C} {w : Lw} {acc : α} {ds : List Mi.D}
    (W : Walks g J ds ρ H) (l : Rl g.K g.F ρ S H) (sl : Slots g.K H g.F ρ w σ) (ac : AC acc H ρ) (h : RunM g D AC (loopD t tt em ds acc (Mi.forget js w) S) ρ H Q) :
    tLoop J (LG g is t) (LT g tt) (LM g D AC em) js σ H Q := by
  refine ⟨fun i m H' => ∃ ρ' S' acc', Rl g.K g.F ρ' S' H' ∧ XF (· = D) ρ H ρ' H' ∧ AC acc' H' ρ' ∧ m = ds.length - i ∧ RunM g D AC (loopD t tt em (ds.drop i) acc' (Mi.forget js w) S') ρ' H' Q,
    ⟨ds.length, ρ, S, acc, l, XF.refl _ _ _, ac, rfl, h⟩, ?_⟩
  rintro i m H' ⟨ρ', S', acc', l', ex', ac', rfl, h'⟩
  obtain ⟨go, stop⟩ := W g.F (fun _ h => .inl h) ρ' S' H' (ex'.le fun b z => z ▸ hD) l' i
  by_cases hi : i < ds.length
  · have ed : ds[i]? = some ds[i] := List.getElem?_eq_getElem hi
    obtain ⟨g1, g2⟩ := go _ ed
    rw [List.drop_eq_getElem_cons hi] at h'
    refine .inr ⟨g1, fun H2 => ∃ ρ2 S2 acc2, Rl g.K g.F ρ2 S2 H2 ∧ XF (· = D) ρ H ρ2 H2 ∧ AC acc2 H2 ρ2 ∧ RunM g D AC (loopD t tt em (ds.drop (i + 1)) acc2 (Mi.forget js w) S2) ρ2 H2 Q, ?_, fun x H2 y => ?_⟩
    · rintro H2 ⟨ρ2, S2, acc2, q1, q2, q3, q4⟩
      exact ⟨ds.length - (i + 1), by omega, ρ2, S2, acc2, q1, q2, q3, rfl, q4⟩
    · obtain ⟨y1, y2, y3⟩ := g2 x H2 y
      have ex2 := ex'.trans y1.xf
      have s2 := ((ex2.le (F := g.F) fun b z => z ▸ hD).slots sl).wipe js
      have ac2 := ak.keep _ _ _ _ _ _ _ l' ac' y1 y2
      have h2 := RunM.mono (ρ1 := ρ') (H1 := H2) y1.xf h'
      unfold loopD at h2
      refine ⟨ρ', S', Mi.forget js w, .d ds[i], y2, s2, y3, ?_⟩
      cases et : t (.d ds[i]) (Mi.forget js w) S' with
      | exc x S3 => rw [et] at h2; exact h2.elim
      | bad => rw [et] at h2; exact h2.elim
      | ok w3 S3 =>
        rw [et] at h2
        intro ρ3 H3 σ3 e3 l3 s3
        have hag : Agr js (L2.wipe σ js) σ3 := ⟨s3.2.1, fun i hi => s3.2.2 i fun z => hi (hij i z)⟩
        refine ⟨wipe_agr hag, ?_⟩
        have ac3 := ak.keep _ _ _ _ _ _ _ y2 ac2 e3 l3
        have h3 := RunM.mono (ρ1 := ρ3) (H1 := H3) e3.xf h2
        refine ⟨ρ3, S3, w3, l3, s3.1, RunM.bnd h3 fun ρ4 S4 k b H4 e4 l4 rb h4 => ?_⟩
        have rb : k = b := rb
        subst rb
        have ac4 := ak.keep _ _ _ _ _ _ _ l3 ac3 e4 l4
        have ex4 := (ex2.trans e3.xf).trans e4.xf
        cases k with
        | false => exact ⟨ρ4, S4, acc', l4, ex4, ac4, h4⟩
        | true => exact ⟨ρ4, S4, w3, acc', l4, s3.1.mono e4, ac4, RunM.bndM h4 fun ρ5 S5 a H5 e5 l5 ac5 h5 => ⟨ρ5, S5, a, l5, ex4.trans e5, ac5, h5⟩⟩
  · refine .inl ⟨stop (by omega), ?_⟩
    rw [List.drop_eq_nil_of_le (by omega)] at h'
    exact h' ρ' H' (XF.refl _ _ _) l' ac'
/-- a deeper clause -/
theorem lm_nest {g : G} {D : Addr} (hD : g.F D) {AC : α → Hp → List (Option Addr) → Prop} (ak : ACk g AC) {mi : MI} {t : MG} {tt : MT} {em : EM α} {is js : List Nat} (hij : ∀ i ∈ is, i ∈ js) {σ : L2.St} {H : Hp} {Q : Hp → Prop} (h : LM g D AC (mNest mi js t tt em) σ H Q) :
    tNest (LI g mi) (LG g is t) (LT g tt) (LM g D AC em) js σ H Q := by
  obtain ⟨ρ, S, w, acc, l, sl, ac, h⟩ := h
  refine ⟨ρ, S, w, l, sl, RunM.bnd h fun ρ1 S1 ds J H1 e1 l1 r1 h1 => ?_⟩
  exact lm_loop hD ak hij r1 l1 (sl.mono e1) (ak.keep _ _ _ _ _ _ _ l ac e1 l1) h1
/-- what a turn does: by data -/
structure DM (X : Cx) (g : G) (c : CK) (gens : List Comprehension) (scope : Scope) (pos : Pos) (d : Nat) (D : Addr) (AC : α → Hp → List (Option Addr) → Prop) (vs : List Nat) (em : EM α) : Prop where
  pm : PM X c gens scope pos d D vs (LM g D AC em)
theorem pm_w {X : Cx} {c : CK} {gens : List Comprehension} {scope : Scope} {pos : Pos} {d : Nat} {D : Addr} {vs : List Nat} {t t' : TM} (h : PM X c gens scope pos d D vs t) (i : ∀ σ H Q, t' σ H Q → t σ H Q) : PM X c gens scope pos d D vs t' :=
  ⟨fun pins s σ H Q I q => h.run pins s σ H Q I (i σ H Q q)⟩
theorem dm_nest {X : Cx} {g : G} {c : CK} {gens : List Comprehension} {scope : Scope} {pos : Pos} {d : Nat} {D : Addr} (hD : g.F D) {AC : α → Hp → List (Option Addr) → Prop} (ak : ACk g AC) {tg it0 : Expr} {is js vs1 : List Nat} {mi : MI} {t : MG} {tt : MT} {em : EM α} (hij : ∀ i ∈ is, i ∈ js) (hv : ∀ i ∈ vs1, i ∈ js)
    (hc : X.calm = true) (hxe : X.xe = fun _ _ => False) {ifs : List Expr} (hg : gens[d + 1]? = some ⟨tg, it0, ifs, 0⟩) (ha : ∀ g1, gens[d + 1 + 1]? = some g1 → g1.is_async = 0) (hs : ∀ x, foldedSetIterable it0 X.env x = pure x)
    (di : DI X g tg it0 mi) (dg : DG X g tg is t) (dt : PTs X ifs (LT g tt)) (dm : DM X g c gens scope pos (d + 1) D AC vs1 em) : DM X g c gens scope pos d D AC js (mNest mi js t tt em) :=
  ⟨pm_w (pm_nest hc hxe hg ha hs di dg dt dm.pm hv) fun _ _ _ => lm_nest hD ak hij⟩
/-! lists -/
def ACl (g : G) (D : Addr) : List Mi.D → Hp → List (Option Addr) → Prop := fun acc H ρ => ∃ vs, H D = some (.lst vs) ∧ Reps g.K H (bar g.F ρ) acc vs
def mEmL (te : ME) : EM (List Mi.D) := fun acc w S => (te w S).nox.bind fun y S1 => match y with
  | .d y => if acc.length < sizeLine then .ok (acc ++ [y]) S1 else .bad
  | .l _ => .bad
theorem rl_nin {K : PySem.W.Frag} {F : Addr → Prop} {ρ : List (Option Addr)} {S : List C} {H : Hp} {D : Addr} (l : Rl K F ρ S H) (hD : F D) : some D ∉ ρ := fun m => by
  obtain ⟨n, hn⟩ := List.getElem?_of_mem m
  exact l.sep n D hn hD
theorem ack_l {g : G} {D : Addr} (hD : g.F D) : ACk g (ACl g D) := ⟨fun a ρ ρ' S S' H H' l0 ⟨vs, h, r⟩ e l => ⟨vs, e.keep D _ h (rl_nin l0 hD), Reps.mono (e.ev g.F) _ _ r⟩⟩
theorem xf_upd {ρ : List (Option Addr)} {H : Hp} {D : Addr} {o : HO} : XF (· = D) ρ H ρ (upd H D o) := ⟨fun b o h n => by
  rw [upd_ne (fun z => n (.inl z))]
  exact h, Nat.le_refl _, fun _ _ _ h => h, fun _ h => .inl h⟩
theorem dm_l {X : Cx} {g : G} {elt : Expr} {gens : List Comprehension} {scope : Scope} {pos : Pos} {d : Nat} {D : Addr} {me : ME} (hD : g.F D) (hxe : X.xe = fun _ _ => False) (hg : gens[d + 1]? = none) (he : DE X g elt me) : DM X g (.l elt) gens scope pos d D (ACl g D) [] (mEmL me) :=
  ⟨pm_w (pm_l hxe hg he) fun σ H Q ⟨ρ, S, w, acc, l, sl, ac, h⟩ => ⟨ρ, S, w, l, sl, RunM.bnd h fun ρ1 S1 y v H1 e1 l1 r1 h1 => by
    have ac1 := (ack_l hD).keep _ _ _ _ _ _ _ l ac e1 l1
    obtain ⟨vs, k1, k2⟩ := ac1
    cases y with
    | l n => exact h1.elim
    | d y =>
      dsimp only at h1
      by_cases hz : acc.length < sizeLine
      · rw [if_pos hz] at h1
        exact ⟨vs, k1, by rw [k2.length]; exact hz, h1 ρ1 _ xf_upd (rl_F l1 hD) ⟨vs ++ [v], upd_same, (Reps.mono (ev_F hD) _ _ k2).append (Reps.cons (Rep.mono (ev_F hD) _ _ r1) Reps.nil)⟩⟩
      · rw [if_neg hz] at h1
        exact h1.elim⟩⟩
/-! sets of ints -/
def ACs (w : World) (g : G) (D : Addr) : List Int → Hp → List (Option Addr) → Prop := fun acc H _ => ∃ S, H D = some (SetO w D S acc.length) ∧ acc.Nodup ∧ ∀ k, S k = true ↔ k ∈ acc
def mEmS (te : ME) : EM (List Int) := fun acc w S => (te w S).nox.bind fun y S1 => match y with
  | .d (.int k) => if acc.length + 1 < scanBound then .ok (if k ∈ acc then acc else acc ++ [k]) S1 else .bad
  | _ => .bad
theorem ack_s {w : World} {g : G} {D : Addr} (hD : g.F D) : ACk g (ACs w g D) := ⟨fun a ρ ρ' S S' H H' l0 ⟨S0, h, r⟩ e l => ⟨S0, e.keep D _ h (rl_nin l0 hD), r⟩⟩
theorem dm_s {X : Cx} {g : G} {elt : Expr} {gens : List Comprehension} {scope : Scope} {pos : Pos} {d : Nat} {D : Addr} {me : ME} (hD : g.F D) (hxe : X.xe = fun _ _ => False) (hg : gens[d + 1]? = none) (he : DE X g elt me) : DM X g (.s elt) gens scope pos d D (ACs X.w g D) [] (mEmS me) :=
  ⟨pm_w (pm_s hxe hg he) fun σ H Q ⟨ρ, S, w, acc, l, sl, ac, h⟩ => ⟨ρ, S, w, l, sl, RunM.bnd h fun ρ1 S1 y v H1 e1 l1 r1 h1 => by
    have ac1 := (ack_s (w := X.w) hD).keep _ _ _ _ _ _ _ l ac e1 l1
    obtain ⟨S0, k1, k2, k3⟩ := ac1
    cases y with
    | l n => exact h1.elim
    | d y =>
      cases y with
      | int k =>
        dsimp only at h1
        have r1 : Rep g.K H1 (bar g.F ρ1) (.int k) v := r1
        obtain rfl : v = .int k := by simpa only [Rep] using r1
        by_cases hz : acc.length + 1 < scanBound
        · rw [if_pos hz] at h1
          refine ⟨D, k, S0, acc.length, rfl, rfl, k1, hz, h1 ρ1 _ xf_upd (rl_F l1 hD) ?_⟩
          refine ⟨fun j => S0 j || decide (j = k), ?_, ?_, fun j => ?_⟩
          · rw [upd_same]
            by_cases hk : k ∈ acc
            · rw [if_pos ((k3 k).mpr hk), if_pos hk]
            · rw [if_neg (fun z => hk ((k3 k).mp z)), if_neg hk, List.length_append]; rfl
          · split
            · exact k2
            · rename_i hk
              exact List.nodup_append.mpr ⟨k2, by simp, fun a ha b hb e => hk (by rw [← List.mem_singleton.mp hb, ← e]; exact ha)⟩
          · rw [Bool.or_eq_true, k3 j, decide_eq_true_eq]
            split
            · rename_i hk
              exact ⟨fun z => z.elim id fun (e : j = k) => by rw [e]; exact hk, .inl⟩
            · simp
        · rw [if_neg hz] at h1
          exact h1.elim
      | _ => exact h1.elim⟩⟩
/-! the whole -/
def mGather (mi : MI) (js : List Nat) (t : MG) (tt : MT) (em : EM α) (a0 : α) : Lw → List C → R α := fun w S => (mi w S).bind fun ds S1 => (loopD t tt em ds a0 (forget js w) S1).nox
def EMx (g : G) (AC : G → Addr → α → Hp → List (Option Addr) → Prop) (em : EM α) (D : Addr) : TM := fun σ H Q => ∃ F, F D ∧ LM (g.quiet F) D (AC (g.quiet F) D) em σ H Q
abbrev rAC (g : G) (AC : G → Addr → α → Hp → List (Option Addr) → Prop) : Hp → List (Option Addr) → α → V → Prop := fun H ρ a v => ∃ D, v = .ref D ∧ ¬ bar g.F ρ D ∧ AC g D a H ρ
theorem LTx_of {g : G} {F : Addr → Prop} {tt : MT} {σ : L2.St} {H : Hp} {Q : Bool → Hp → Prop} (h : LT (g.quiet F) tt σ H Q) : LTx g tt σ H Q := ⟨F, h⟩
theorem LT_mono {g : G} {tt : MT} {σ : L2.St} {H : Hp} {Q Q' : Bool → Hp → Prop} (h : LT g tt σ H Q) (i : ∀ b H, Q b H → Q' b H) : LT g tt σ H Q' := by
  obtain ⟨ρ, S, w, l, sl, h⟩ := h
  exact ⟨ρ, S, w, l, sl, Run.mono (Ext.refl _ _) h i⟩
theorem LG_mono {g : G} {is : List Nat} {m : MG} {v : V} {σ : L2.St} {H : Hp} {Q Q' : L2.St → Hp → Prop} (h : LG g is m v σ H Q) (i : ∀ b H, Q b H → Q' b H) : LG g is m v σ H Q' := by
  obtain ⟨ρ, S, w, x, l, sl, r, h⟩ := h
  exact ⟨ρ, S, w, x, l, sl, r, Run.mono (Ext.refl _ _) h i⟩
theorem tLoop_x {g : G} {F : Addr → Prop} {AC : G → Addr → α → Hp → List (Option Addr) → Prop} {D : Addr} (hD : F D) {J : It} {t : MG} {tt : MT} {em : EM α} {is js : List Nat} {σ : L2.St} {H : Hp} {Q : Hp → Prop}
    (h : tLoop J (LG (g.quiet F) is t) (LT (g.quiet F) tt) (LM (g.quiet F) D (AC (g.quiet F) D) em) js σ H Q) : tLoop J (LGx g is t) (LTx g tt) (EMx g AC em D) js σ H Q := by
  obtain ⟨W, w0, h⟩ := h
  refine ⟨W, w0, fun i m H hw => (h i m H hw).imp id fun ⟨go, Nx, hn, st⟩ => ⟨go, Nx, hn, fun x H' y => ⟨F, LG_mono (st x H' y) fun σ2 H2 ⟨a, b⟩ => ⟨a, F, LT_mono b fun b H3 c => ?_⟩⟩⟩⟩
  cases b with
  | false => exact c
  | true => exact ⟨F, hD, c⟩
theorem le_gather {g : G} {AC : G → Addr → α → Hp → List (Option Addr) → Prop} {o0 : Addr → HO} {a0 : α} (h0 : ∀ g D H ρ, AC g D a0 (upd H D (o0 D)) ρ) (ack : ∀ F D, F D → ACk (g.quiet F) (AC (g.quiet F) D)) (acw : ∀ F D a H ρ, (∀ a, g.F a → F a) → AC (g.quiet F) D a H ρ → AC g D a H ρ)
    {mi : MI} {t : MG} {tt : MT} {em : EM α} {is js : List Nat} (hij : ∀ i ∈ is, i ∈ js) {σ : L2.St} {H : Hp} {Q : VK} (h : Lft g (rAC g AC) (mGather mi js t tt em a0) σ H Q) :
    LI g mi σ H fun J H1 => ∀ D, H1 D = none → tLoop J (LGx g is t) (LTx g tt) (EMx g AC em D) js σ (upd H1 D (o0 D)) fun H' => Q (.ref D) H' := by
  obtain ⟨ρ, S, w, l, sl, h⟩ := h
  refine ⟨ρ, S, w, l, sl, Run.bnd h fun ρ1 S1 ds J H1 e1 l1 r1 h1 D nD => ?_⟩
  have sl1 := sl.mono e1
  generalize hF' : (fun a => g.F a ∨ a = D) = F'
  have FD : F' D := by rw [← hF']; exact .inr rfl
  have Fg : ∀ a, g.F a → F' a := fun a h => by rw [← hF']; exact .inl h
  have FF : ∀ b, F' b → g.F b ∨ H1 b = none := fun b h => by
    rw [← hF'] at h
    exact h.imp id fun e => by rw [e]; exact nD
  have FF' : ∀ b, F' b → g.F b ∨ b = D := fun b h => by rw [← hF'] at h; exact h
  have nF : ¬ g.F D := fun z => l1.dom D z nD
  have nρ : some D ∉ ρ1 := fun z => new_nb l1 nD (.inr z)
  have en : Ext ρ1 H1 ρ1 (upd H1 D (o0 D)) := ext_new nD
  have start : Rl g.K F' ρ1 S1 (upd H1 D (o0 D)) := by
    have l2 := rl_new (o := o0 D) l1 nD
    refine ⟨l2.len, fun n a e => ?_, l2.live, l2.inj, fun a h => ?_, fun n a e z => ?_⟩
    · obtain ⟨c, h1, h2⟩ := l1.cell n a e
      exact ⟨c, h1, h2.mono (en.ev2 FF) fun o q => upd_keep nD q⟩
    · rcases FF' a h with z | z
      · exact l2.dom a z
      · subst z; rw [upd_same]; exact fun q => nomatch q
    · rcases FF' a z with z | z
      · exact l1.sep n a e z
      · subst z; exact nρ (List.mem_of_getElem? e)
  have sl2 : Slots g.K (upd H1 D (o0 D)) F' ρ1 w σ := sl1.mono2 en FF
  have W2 : Walks (g.quiet F') J ds ρ1 (upd H1 D (o0 D)) := by
    intro F2 hF2 ρ' S' H' e' l' i
    refine r1 F2 (fun b z => ?_) ρ' S' H' ?_ l' i
    · rcases hF2 b z with q | q
      · exact FF b q
      · by_cases e : b = D
        · subst e; exact .inr nD
        · rw [upd_ne e] at q; exact .inr q
    · refine ⟨fun b o hb nb => ?_, e'.len, e'.old, fun a m => ?_⟩
      · have bD : b ≠ D := ne_of_none hb nD
        refine e'.keep b o (by rw [upd_ne bD]; exact hb) fun z => ?_
        rcases z with z | z
        · rcases FF' b z with z | z
          · exact nb (.inl z)
          · exact bD z
        · exact nb (.inr z)
      · rcases e'.new a m with z | z | z
        · exact .inl z
        · by_cases e : a = D
          · subst e; exact .inr (.inl nD)
          · rw [upd_ne e] at z; exact .inr (.inl z)
        · rcases FF' a z with z | z
          · exact .inr (.inr z)
          · subst z; exact .inr (.inl nD)
  refine tLoop_x FD (lm_loop (g := g.quiet F') FD (ack F' D FD) hij W2 start sl2 (h0 _ D H1 ρ1) ?_)
  cases hr : loopD t tt em ds a0 (Mi.forget js w) S1 with
  | exc x S2 => rw [hr] at h1; exact h1.elim
  | bad => rw [hr] at h1; exact h1.elim
  | ok a S2 =>
    rw [hr] at h1
    intro ρ2 H2 e2 l2 ac2
    have nρ2 : some D ∉ ρ2 := rl_nin l2 FD
    refine h1 ρ2 H2 (.ref D) ?_ (l2.weakF Fg) ⟨D, rfl, fun z => z.elim nF nρ2, acw F' D a H2 ρ2 Fg ac2⟩
    refine ⟨fun b o hb nb => ?_, e2.len, e2.old, fun a m => ?_⟩
    · have bD : b ≠ D := ne_of_none hb nD
      exact e2.keep b o (by rw [upd_ne bD]; exact hb) fun z => z.elim bD nb
    · rcases e2.new a m with z | z | z
      · exact .inl z
      · by_cases e : a = D
        · subst e; exact .inr nD
        · rw [upd_ne e] at z; exact .inr z
      · subst z; exact .inr nD
end
end Mi

namespace Mi
open PySem PySem.Spec PyProof.Rows L2
section
variable {X : Cx} {g : G} {elt tg iter : Expr} {ifs : List Expr} {rest : List Comprehension} {scope : Scope} {own : List (Str × Nat)} {vs1 is : List Nat} {pos : Pos} {mi : MI} {t : MG} {tt : MT}
theorem reps_ints' {K : PySem.W.Frag} {H : Hp} {B : Addr → Prop} : ∀ ns : List Int, Reps K H B (ns.map Mi.D.int) (ns.map V.int)
  | [] => Reps.nil
  | a :: r => Reps.cons (Rep.int a) (reps_ints' r)
theorem newSet_at {prog : Program} {w : World} {A : Around} {E : Value → Shared → Prop} {s : Shared} {Q : Value → Shared → Prop} (h : Q (.ref s.heap.objs.size) { s with heap := s.heap.push { cls := .type "set", dict := none, data := .set #[] 0 (.fresh 0 0 (!w.params.followText "set-order")) } }) :
    wpAny (model prog w) A (newSet (.type "set")) Q E s := by
  unfold newSet setsByText
  refine wpAny_bind (wpAny_bind (wpAny_askSetting (wpAny_pure ?_)))
  dsimp only
  simp only [newObj]
  exact wpAny_bind (wpAny_alloc (wpAny_pure h))
abbrev tAll (X : Cx) (g : G) {α : Type} (AC : G → Addr → α → Hp → List (Option Addr) → Prop) (o0 : Addr → HO) (mi : MI) (is js : List Nat) (t : MG) (tt : MT) (em : EM α) : TE := fun σ H Q => LI g mi σ H fun J H1 => ∀ D, H1 D = none → tLoop J (LGx g is t) (LTx g tt) (EMx g AC em D) js σ (upd H1 D (o0 D)) fun H' => Q (.ref D) H'
theorem pm_x {α : Type} {c : CK} {gens : List Comprehension} {d : Nat} {D : Addr} {AC : G → Addr → α → Hp → List (Option Addr) → Prop} {em : EM α} (h : ∀ F : Addr → Prop, F D → DM X (g.quiet F) c gens scope pos d D (AC (g.quiet F) D) vs1 em) : PM X c gens scope pos d D vs1 (EMx g AC em D) :=
  ⟨fun pins s σ H Q I ⟨F, hD, q⟩ => (h F hD).pm.run pins s σ H Q I q⟩
theorem pe_lcn {em : EM (List Mi.D)} (hc : X.calm = true) (hN : X.N.Nodup) (hi : DI X g tg iter mi) (ok : BlkOk X.N X.env.scope scope own) (hv : ∀ i ∈ vs1, i ∈ own.map (·.2)) (ha : ∀ g1, rest[0]? = some g1 → g1.is_async = 0)
    (hg : ∀ (s : Shared) (H : Hp) (C : Addr) (cl : List (Str × Addr)) (fp : List Addr) F, DG (X.blk s H scope (compEnvC scope cl C X.env) fp) (g.quiet F) tg is t) (ht : ∀ (s : Shared) (H : Hp) (C : Addr) (cl : List (Str × Addr)) (fp : List Addr), DTs (X.blk s H scope (compEnvC scope cl C X.env) fp) g ifs tt)
    (he : ∀ (s : Shared) (H : Hp) (C : Addr) (cl : List (Str × Addr)) (fp : List Addr) (D : Addr) (F : Addr → Prop), F D → DM (X.blk s H scope (compEnvC scope cl C X.env) fp) (g.quiet F) (.l elt) (⟨tg, iter, ifs, 0⟩ :: rest) scope pos 0 D (ACl (g.quiet F) D) vs1 em) (hs : ∀ x, foldedSetIterable iter X.env x = pure x) :
    PE X (.ListComp elt (⟨tg, iter, ifs, 0⟩ :: rest) scope pos) (tAll X g ACl (fun _ => .lst []) mi is (own.map (·.2)) t tt em) := by
  refine ⟨fun pins s σ H Q I h => ?_⟩
  rw [eval_ListComp]
  refine comp_core (c := .l elt) (use := none) (newAcc := newList []) (o0 := fun _ => .lst []) (dd := .seq ([] : List Value).toArray) (TT := "list") (fun s Q q => wpAny_newObj_type q (by show 0 ≤ sizeLine; decide)) (fun H h => ⟨Nat.zero_le _, [], 0, .nil, Heap.get?_push_size _ rfl⟩) hc hN I hi ok hv ha (fun s H C cl fp => pg_x (hg s H C cl fp)) (fun s H C cl fp => pts_x (ht s H C cl fp))
    (fun s H C cl fp D => pm_x fun F hD => he s H C cl fp D F hD) hs h fun D C s' m H' I' q hn f => ⟨m, hn, fun h'' sb => ?_⟩
  obtain ⟨f0, f1, f2, f3, f4, f5⟩ := f
  exact ⟨.ref D, H', I'.turned (t' := s'.toks) (fun b o hb e => (sb.2 b hb).trans e) f0 f1 f3 f4 f5, rfl, q⟩
theorem pe_scn {em : EM (List Int)} (hc : X.calm = true) (hN : X.N.Nodup) (hi : DI X g tg iter mi) (ok : BlkOk X.N X.env.scope scope own) (hv : ∀ i ∈ vs1, i ∈ own.map (·.2)) (ha : ∀ g1, rest[0]? = some g1 → g1.is_async = 0)
    (hg : ∀ (s : Shared) (H : Hp) (C : Addr) (cl : List (Str × Addr)) (fp : List Addr) F, DG (X.blk s H scope (compEnvC scope cl C X.env) fp) (g.quiet F) tg is t) (ht : ∀ (s : Shared) (H : Hp) (C : Addr) (cl : List (Str × Addr)) (fp : List Addr), DTs (X.blk s H scope (compEnvC scope cl C X.env) fp) g ifs tt)
    (he : ∀ (s : Shared) (H : Hp) (C : Addr) (cl : List (Str × Addr)) (fp : List Addr) (D : Addr) (F : Addr → Prop), F D → DM (X.blk s H scope (compEnvC scope cl C X.env) fp) (g.quiet F) (.s elt) (⟨tg, iter, ifs, 0⟩ :: rest) scope pos 0 D (ACs X.w (g.quiet F) D) vs1 em) (hs : ∀ x, foldedSetIterable iter X.env x = pure x) :
    PE X (.SetComp elt (⟨tg, iter, ifs, 0⟩ :: rest) scope pos) (tAll X g (ACs X.w) (fun a => SetO X.w a (fun _ => false) 0) mi is (own.map (·.2)) t tt em) := by
  refine ⟨fun pins s σ H Q I h => ?_⟩
  show wpAny _ _ (comprehension (.SetComp elt (⟨tg, iter, ifs, 0⟩ :: rest) scope pos) scope X.env (firstIterPos (⟨tg, iter, ifs, 0⟩ :: rest) pos) (newSet (.type "set")) false (eval iter X.env)) _ _ s
  refine comp_core (c := .s elt) (use := none) (newAcc := newSet (.type "set")) (o0 := fun a => SetO X.w a (fun _ => false) 0) (dd := .set #[] 0 (.fresh 0 0 (!X.w.params.followText "set-order"))) (TT := "set") (fun s Q q => newSet_at q) (fun H h => setO_new (setR_fresh X.w)) hc hN I hi ok hv ha (fun s H C cl fp => pg_x (hg s H C cl fp)) (fun s H C cl fp => pts_x (ht s H C cl fp))
    (fun s H C cl fp D => pm_x fun F hD => he s H C cl fp D F hD) hs h fun D C s' m H' I' q hn f => ⟨m, hn, fun h'' sb => ?_⟩
  obtain ⟨f0, f1, f2, f3, f4, f5⟩ := f
  exact ⟨.ref D, H', I'.turned (t' := s'.toks) (fun b o hb e => (sb.2 b hb).trans e) f0 f1 f3 f4 f5, rfl, q⟩
def mLcN (mi : MI) (js : List Nat) (t : MG) (tt : MT) (em : EM (List Mi.D)) : ME := fun w S => (mGather mi js t tt em [] w S).bind lcEnd
theorem acl_w {g : G} : ∀ (F : Addr → Prop) D a H ρ, (∀ a, g.F a → F a) → ACl (g.quiet F) D a H ρ → ACl g D a H ρ := fun F D a H ρ hF ⟨vs, h, r⟩ => ⟨vs, h, Reps.mono ⟨fun _ _ h _ => h, fun b o h n m => n (m.imp (hF b) id)⟩ _ _ r⟩
theorem acl_0 : ∀ (g : G) (D : Addr) H ρ, ACl g D [] (upd H D (.lst [])) ρ := fun g D H ρ => ⟨[], upd_same, Reps.nil⟩
theorem acs_0 {w : World} : ∀ (g : G) (D : Addr) H ρ, ACs w g D [] (upd H D (SetO w D (fun _ => false) 0)) ρ := fun g D H ρ => ⟨_, upd_same, List.nodup_nil, by simp⟩
theorem d_lcN {em : EM (List Mi.D)} (hc : X.calm = true) (hN : X.N.Nodup) (hi : DI X g tg iter mi) (ok : BlkOk X.N X.env.scope scope own) (hij : ∀ i ∈ is, i ∈ own.map (·.2)) (hv : ∀ i ∈ vs1, i ∈ own.map (·.2)) (ha : ∀ g1, rest[0]? = some g1 → g1.is_async = 0)
    (hg : ∀ (s : Shared) (H : Hp) (C : Addr) (cl : List (Str × Addr)) (fp : List Addr) F, DG (X.blk s H scope (compEnvC scope cl C X.env) fp) (g.quiet F) tg is t) (ht : ∀ (s : Shared) (H : Hp) (C : Addr) (cl : List (Str × Addr)) (fp : List Addr), DTs (X.blk s H scope (compEnvC scope cl C X.env) fp) g ifs tt)
    (he : ∀ (s : Shared) (H : Hp) (C : Addr) (cl : List (Str × Addr)) (fp : List Addr) (D : Addr) (F : Addr → Prop), F D → DM (X.blk s H scope (compEnvC scope cl C X.env) fp) (g.quiet F) (.l elt) (⟨tg, iter, ifs, 0⟩ :: rest) scope pos 0 D (ACl (g.quiet F) D) vs1 em) (hs : ∀ x, foldedSetIterable iter X.env x = pure x := by intro _; rfl) :
    DE X g (.ListComp elt (⟨tg, iter, ifs, 0⟩ :: rest) scope pos) (mLcN mi (own.map (·.2)) t tt em) :=
  PEw (pe_lcn hc hN hi ok hv ha hg ht he hs) fun σ H Q ⟨ρ, S, w, l, sl, h⟩ => le_gather acl_0 (fun F D hD => ack_l hD) acl_w hij ⟨ρ, S, w, l, sl, Run.bnd h fun ρ1 S1 ys v H1 e1 l1 r1 h1 => by
    obtain ⟨D, rfl, nb, vs, k1, k2⟩ := r1
    exact Run.ok_ (rep := rW g) l1 (show RepW g.K H1 g.F ρ1 (.d (.lst ys)) _ from Rep.lst (K := g.K) k1 nb k2) h1⟩
def sortEnd (ns : List Int) (S : List C) : R W := if ns.length < 64 then .ok (.d (.lst ((ns.mergeSort fun a b => decide (a ≤ b)).map .int))) S else .bad
def mSortSet (mi : MI) (js : List Nat) (t : MG) (tt : MT) (em : EM (List Int)) : ME := fun w S => (mGather mi js t tt em [] w S).bind sortEnd
theorem d_sortSet {em : EM (List Int)} {p cpos : Pos} (hm : X.mg "sorted" = none) (hc : X.calm = true) (hN : X.N.Nodup) (hi : DI X g tg iter mi) (ok : BlkOk X.N X.env.scope scope own) (hij : ∀ i ∈ is, i ∈ own.map (·.2)) (hv : ∀ i ∈ vs1, i ∈ own.map (·.2)) (ha : ∀ g1, rest[0]? = some g1 → g1.is_async = 0)
    (hg : ∀ (s : Shared) (H : Hp) (C : Addr) (cl : List (Str × Addr)) (fp : List Addr) F, DG (X.blk s H scope (compEnvC scope cl C X.env) fp) (g.quiet F) tg is t) (ht : ∀ (s : Shared) (H : Hp) (C : Addr) (cl : List (Str × Addr)) (fp : List Addr), DTs (X.blk s H scope (compEnvC scope cl C X.env) fp) g ifs tt)
    (he : ∀ (s : Shared) (H : Hp) (C : Addr) (cl : List (Str × Addr)) (fp : List Addr) (D : Addr) (F : Addr → Prop), F D → DM (X.blk s H scope (compEnvC scope cl C X.env) fp) (g.quiet F) (.s elt) (⟨tg, iter, ifs, 0⟩ :: rest) scope pos 0 D (ACs X.w (g.quiet F) D) vs1 em) (hs : ∀ x, foldedSetIterable iter X.env x = pure x := by intro _; rfl)
    (hgl : Gl X "sorted" := by rfl) (hst : starEach [Expr.SetComp elt (⟨tg, iter, ifs, 0⟩ :: rest) scope pos] X.env = (false, eval (.SetComp elt (⟨tg, iter, ifs, 0⟩ :: rest) scope pos) X.env) :: starEach [] X.env := by rfl) (hpl : (backTo cpos (starEach [] X.env)).any (·.1) = false := by rfl) :
    DE X g (.Call (.Name "sorted" p) [.SetComp elt (⟨tg, iter, ifs, 0⟩ :: rest) scope pos] [] cpos) (mSortSet mi (own.map (·.2)) t tt em) := by
  refine PEw (pe_callB (cr_sortedSet hc) hgl hm rfl (pa_cons (pe_scn hc hN hi ok hv ha hg ht he hs) pa_nil hst) (by decide) (by decide) hst hpl) fun σ H Q ⟨ρ, S, w, l, sl, h⟩ => ?_
  show tAll X g (ACs X.w) (fun a => SetO X.w a (fun _ => false) 0) mi is (own.map (·.2)) t tt em σ H fun x H1 => tNil σ H1 fun xs H2 => rSortedSet X.w (x :: xs) H2 Q
  refine le_gather (AC := ACs X.w) (o0 := fun a => SetO X.w a (fun _ => false) 0) (Q := fun x H1 => tNil σ H1 fun xs H2 => rSortedSet X.w (x :: xs) H2 Q) acs_0 (fun F D hD => ack_s hD) (fun _ _ _ _ _ _ h => h) hij ⟨ρ, S, w, l, sl, Run.bnd h fun ρ1 S1 ns v H1 e1 l1 r1 h1 => ?_⟩
  obtain ⟨D, rfl, nb, S0, k1, k2, k3⟩ := r1
  unfold sortEnd at h1
  by_cases hz : ns.length < 64
  · rw [if_pos hz] at h1
    refine ⟨D, S0, ns.length, rfl, k1, hz, fun ms q hp hm hl hq => ?_⟩
    have pm : ms.Perm ns := (List.perm_ext_iff_of_nodup (hp.imp fun h => Int.ne_of_lt h) k2).mpr fun a => (hm a).trans (k3 a)
    have e : ms = ns.mergeSort fun a b => decide (a ≤ b) := sorted_one (fun a b c => by simp only [decide_eq_true_eq]; omega) (fun a b => by simp only [Bool.or_eq_true, decide_eq_true_eq]; omega) (fun a b => by simp only [decide_eq_true_eq]; omega) pm (hp.imp fun h => by simp only [decide_eq_true_eq]; omega)
    rw [← e] at h1
    refine h1 ρ1 _ (.ref q) (ext_new hq) (rl_new l1 hq) (Rep.lst upd_same (fun z => new_nb l1 hq z) (reps_ints' ms))
  · rw [if_neg hz] at h1
    exact h1.elim
end
end Mi

namespace Mi
theorem cx_no {P : PySem.Program} {w : PySem.World} {H : L2.Hp} {s s' : PySem.Shared} {e : PySem.Value} (h : L2N.CX P w [] H s (fun _ _ _ => False) e s') : False := by
  obtain ⟨_, _, _, _, _, _, _, _, _, _, _, _, h⟩ := h
  exact h
end Mi

namespace Mi
open PySem PySem.Spec PyProof.Rows L2
/-! ### reckoning with mirrors: what must hold ahead, for what is to hold behind -/
theorem nrfl {α : Sort u} {a b : α} (h : a = b) : a = b := h
section
variable {α β : Type}
abbrev XP := Ex → List C → Prop
def okR (r : R α) (Q : α → List C → Prop) (X : XP) : Prop := match r with
  | .ok a S => Q a S
  | .exc x S => X x S
  | .bad => False
def okP (r : RP) (Q : D → Prop) (X : Ex → Prop) : Prop := match r with
  | .ok d => Q d
  | .exc x => X x
  | .bad => False
def okM (r : Option β) (Q : β → Prop) : Prop := match r with
  | some x => Q x
  | none => False
abbrev KO := O → Prop
def noX : XP := fun _ _ => False
def noXP : Ex → Prop := fun _ => False
def wE (m : Lw → List C → R α) (w : Lw) (S : List C) (Q : α → List C → Prop) (X : XP) : Prop := okR (m w S) Q X
def okO (o : O) (K : KO) : Prop := match o with
  | .bad => False
  | o => K o
def wS (m : MS) (w : Lw) (S : List C) (K : KO) : Prop := okO (m w S) K
def seqK (b : MS) (K : KO) : KO := fun o => match o with
  | .nx w S => wS b w S K
  | o => K o
variable {Q : α → List C → Prop} {X : XP} {w : Lw} {S : List C} {K : KO}
theorem okR_mono {r : R α} {Q' : α → List C → Prop} {X' : XP} (h : okR r Q' X') (q : ∀ a S, Q' a S → Q a S) (x : ∀ a S, X' a S → X a S) : okR r Q X := by
  cases r with
  | ok a S => exact q _ _ h
  | exc a S => exact x _ _ h
  | bad => exact h
theorem okR_by {r : R α} {Q' : α → List C → Prop} (h : okR r Q' noX) (q : ∀ a S, Q' a S → Q a S) : okR r Q X := okR_mono h q fun _ _ z => z.elim
theorem okP_by {r : RP} {Q Q' : D → Prop} {X : Ex → Prop} (h : okP r Q' noXP) (q : ∀ a, Q' a → Q a) : okP r Q X := by
  cases r with
  | ok a => exact q _ h
  | exc a => exact h.elim
  | bad => exact h
theorem okP_mono {r : RP} {Q Q' : D → Prop} {X X' : Ex → Prop} (h : okP r Q' X') (q : ∀ a, Q' a → Q a) (x : ∀ a, X' a → X a) : okP r Q X := by
  cases r with
  | ok a => exact q _ h
  | exc a => exact x _ h
  | bad => exact h
theorem okP_iff {r : RP} {d : D} : okP r (fun x => x = d) noXP ↔ r = .ok d := by
  cases r with
  | ok a => exact ⟨fun h => by rw [show a = d from h], fun h => by cases h; exact rfl⟩
  | exc a => exact ⟨fun h => h.elim, fun h => by cases h⟩
  | bad => exact ⟨fun h => h.elim, fun h => by cases h⟩
theorem okR_ok {a : α} : okR (.ok a S) Q X = Q a S := nrfl rfl
theorem okR_exc {x : Ex} : okR (α := α) (.exc x S) Q X = X x S := nrfl rfl
theorem okR_bad : okR (α := α) .bad Q X = False := nrfl rfl
theorem okP_ok {a : D} {Q : D → Prop} {X : Ex → Prop} : okP (.ok a) Q X = Q a := nrfl rfl
theorem okM_some {x : β} {Q : β → Prop} : okM (some x) Q = Q x := nrfl rfl
theorem okM_none {Q : β → Prop} : okM none Q = False := nrfl rfl
theorem okR_bind {γ : Type} {r : R γ} {f : γ → List C → R α} : okR (r.bind f) Q X = okR r (fun x S1 => okR (f x S1) Q X) X := by cases r <;> rfl
theorem okR_nox {r : R α} : okR r.nox Q X = okR r Q noX := by cases r <;> rfl
theorem K_stm {r : R α} {f : α → List C → O} : okO (r.stm w f) K = okR r (fun x S1 => okO (f x S1) K) (fun x S1 => K (.exc x w S1)) := by cases r <;> rfl
/-! statements -/
theorem wS_seq {a b : MS} : wS (sSeq a b) w S K = wS a w S (seqK b K) := by
  show okO ((a w S).andThen b) K = okO (a w S) (seqK b K)
  cases a w S <;> rfl
theorem seqK_nx {b : MS} : seqK b K (.nx w S) = wS b w S K := nrfl rfl
theorem seqK_rt {b : MS} {x : W} : seqK b K (.rt x S) = K (.rt x S) := nrfl rfl
theorem seqK_bk {b : MS} : seqK b K (.bk w S) = K (.bk w S) := nrfl rfl
theorem seqK_ct {b : MS} : seqK b K (.ct w S) = K (.ct w S) := nrfl rfl
theorem seqK_exc {b : MS} {x : Ex} : seqK b K (.exc x w S) = K (.exc x w S) := nrfl rfl
theorem wS_nil : wS sNil w S K = K (.nx w S) := nrfl rfl
theorem wS_ret {e : ME} : wS (sRet e) w S K = wE e w S (fun x S1 => K (.rt x S1)) (fun x S1 => K (.exc x w S1)) := K_stm
theorem wS_retN : wS sRetN w S K = K (.rt (.d .non) S) := nrfl rfl
theorem wS_expr {e : ME} : wS (sExpr e) w S K = wE e w S (fun _ S1 => K (.nx w S1)) (fun x S1 => K (.exc x w S1)) := K_stm
theorem wS_if {t : MT} {a b : MS} : wS (sIf t a b) w S K = wE t w S (fun c S1 => (c = true → wS a w S1 K) ∧ (c = false → wS b w S1 K)) (fun x S1 => K (.exc x w S1)) := by
  show okO ((t w S).stm w _) K = _
  rw [K_stm]
  unfold wE
  congr
  funext c S1
  cases c <;> simp [wS]
theorem wS_set {i : Nat} {e : ME} : wS (sSet i e) w S K = wE e w S (fun x S1 => K (.nx (w.set i (some x)) S1)) (fun x S1 => K (.exc x w S1)) := K_stm
theorem wS_brk : wS sBreak w S K = K (.bk w S) := nrfl rfl
theorem wS_cnt : wS sCont w S K = K (.ct w S) := nrfl rfl
theorem wS_frz {i : Nat} : wS (sFrz i) w S K = okM (frzW i w S) (fun p => K (.nx p.1 p.2)) := by
  unfold wS sFrz
  cases frzW i w S <;> rfl
theorem wS_aug {i : Nat} {f : D → D → Option D} {e : ME} : wS (sAug i f e) w S K = okM (w[i]?.bind id) (fun x => wE e w S (fun y S1 => okR (o2 f x y S1) (fun z S2 => K (.nx (w.set i (some z)) S2)) (fun x S2 => K (.exc x w S2))) (fun x S1 => K (.exc x w S1))) := by
  unfold wS sAug
  cases w[i]? with
  | none => rfl
  | some o =>
    cases o with
    | none => rfl
    | some x =>
      show okO ((e w S).stm w _) K = okR (e w S) _ _
      rw [K_stm]
      congr
      funext y S1
      exact K_stm
theorem wS_asg {e : ME} {t : MG} : wS (sAsg e t) w S K = wE e w S (fun x S1 => okR (t x w S1) (fun w1 S2 => K (.nx w1 S2)) noX) (fun x S1 => K (.exc x w S1)) := by
  show okO ((e w S).stm w _) K = _
  rw [K_stm]
  unfold wE
  congr
  funext x S1
  show okO ((t x w S1).nox.stm w _) K = _
  rw [K_stm]
  cases t x w S1 <;> rfl
theorem wS_never : wS sNever w S K = False := nrfl rfl
end
end Mi

namespace Mi
open PySem PySem.Spec PyProof.Rows L2
section
variable {α β : Type} {Q : α → List C → Prop} {QW : W → List C → Prop} {QB : Bool → List C → Prop} {QL : List W → List C → Prop} {QD : List D → List C → Prop} {QO : Option Int → List C → Prop} {X : XP} {w : Lw} {S : List C} {K : KO}
theorem wE_var {i : Nat} : wE (mVar i) w S QW X = okM (w[i]?.bind id) (fun x => QW x S) := by
  unfold wE mVar
  cases w[i]? with
  | none => rfl
  | some o => cases o <;> rfl
theorem wE_c {x : D} : wE (mC x) w S QW X = QW (.d x) S := nrfl rfl
theorem wE_un {f : W → List C → R W} {a : ME} : wE (mUn f a) w S QW X = wE a w S (fun x S1 => okR (f x S1) QW X) X := okR_bind
theorem wE_bin {f : W → W → List C → R W} {a b : ME} : wE (mBin f a b) w S QW X = wE a w S (fun x S1 => wE b w S1 (fun y S2 => okR (f x y S2) QW X) X) X := by
  unfold wE mBin
  rw [okR_bind]
  congr
  funext x S1
  exact okR_bind
theorem ok_ans {o : Option D} : okR (ans S o) QW X = okM o fun c => QW (.d c) S := by cases o <;> rfl
theorem ok_o1 {f : D → Option D} {x : W} : okR (o1 f x S) QW X = okM (vw x S) fun a => okM (f a) fun c => QW (.d c) S := by
  unfold o1
  cases vw x S with
  | none => rfl
  | some a => exact ok_ans
theorem ok_o2 {f : D → D → Option D} {x y : W} : okR (o2 f x y S) QW X = okM (vw x S) fun a => okM (vw y S) fun b => okM (f a b) fun c => QW (.d c) S := by
  unfold o2
  cases vw x S with
  | none => cases vw y S <;> rfl
  | some a => cases vw y S with
    | none => rfl
    | some b => exact ok_ans
theorem ok_ansT {o : Option Bool} : okR (ansT S o) QB X = okM o fun c => QB c S := by cases o <;> rfl
theorem okM_bind {γ : Type} {o : Option γ} {f : γ → Option β} {P : β → Prop} : okM (o.bind f) P = okM o fun x => okM (f x) P := by cases o <;> rfl
theorem okM_map {γ : Type} {o : Option γ} {f : γ → β} {P : β → Prop} : okM (o.map f) P = okM o fun x => P (f x) := by cases o <;> rfl
theorem okM_ite {c : Prop} [Decidable c] {x : β} {P : β → Prop} : okM (if c then some x else none) P = (c ∧ P x) := by
  by_cases h : c
  · rw [if_pos h]; exact propext ⟨fun z => ⟨h, z⟩, And.right⟩
  · rw [if_neg h]; exact propext ⟨False.elim, fun z => h z.1⟩
theorem wE_tru {a : ME} : wE (mTru a) w S QB X = wE a w S (fun x S1 => okM (vw x S1) fun d => okM (truD d) fun c => QB c S1) X := by
  unfold wE mTru
  rw [okR_bind]
  congr
  funext x S1
  rw [ok_ansT]
  unfold truW
  exact okM_bind
theorem wE_mB {a : ME} : wE (mB a) w S QB X = wE a w S (fun x S1 => okM (blW x) fun c => QB c S1) X := by
  unfold wE mB
  rw [okR_bind]
  congr
  funext x S1
  exact ok_ansT
theorem blW_bl {k : Bool} : blW (.d (.bl k)) = some k := nrfl rfl
theorem bsplit {c : Bool} {P P' : Prop} : (if c = true then P else P') = ((c = true → P) ∧ (c = false → P')) := by cases c <;> simp
theorem wE_andT {a b : MT} : wE (mAndT a b) w S QB X = wE a w S (fun c S1 => (c = true → wE b w S1 QB X) ∧ (c = false → QB false S1)) X := by
  unfold wE mAndT
  rw [okR_bind]
  congr
  funext c S1
  cases c <;> simp [okR]
theorem wE_orT {a b : MT} : wE (mOrT a b) w S QB X = wE a w S (fun c S1 => (c = true → QB true S1) ∧ (c = false → wE b w S1 QB X)) X := by
  unfold wE mOrT
  rw [okR_bind]
  congr
  funext c S1
  cases c <;> simp [okR]
theorem wE_notT {a : MT} : wE (mNotT a) w S QB X = wE a w S (fun c S1 => QB (!c) S1) X := okR_bind
theorem wE_and {a b : ME} : wE (mAnd a b) w S QW X = wE a w S (fun x S1 => okM (vw x S1) fun d => okM (truD d) fun c => (c = true → wE b w S1 QW X) ∧ (c = false → QW x S1)) X := by
  unfold wE mAnd
  rw [okR_bind]
  congr
  funext x S1
  unfold truW
  cases vw x S1 with
  | none => rfl
  | some d =>
    simp only [Option.bind_some, okM_some]
    cases truD d with
    | none => rfl
    | some c => cases c <;> simp [okM, okR]
theorem wE_or {a b : ME} : wE (mOr a b) w S QW X = wE a w S (fun x S1 => okM (vw x S1) fun d => okM (truD d) fun c => (c = true → QW x S1) ∧ (c = false → wE b w S1 QW X)) X := by
  unfold wE mOr
  rw [okR_bind]
  congr
  funext x S1
  unfold truW
  cases vw x S1 with
  | none => rfl
  | some d =>
    simp only [Option.bind_some, okM_some]
    cases truD d with
    | none => rfl
    | some c => cases c <;> simp [okM, okR]
theorem wE_not {a : ME} : wE (mNot a) w S QW X = wE a w S (fun x S1 => okM (vw x S1) fun d => okM (truD d) fun c => QW (.d (.bl (!c))) S1) X := by
  unfold mNot
  rw [wE_un]
  congr
  funext x S1
  unfold truW
  cases vw x S1 with
  | none => rfl
  | some d =>
    simp only [Option.bind_some, okM_some]
    cases truD d with
    | none => rfl
    | some c => rfl
theorem wE_if {t : MT} {a b : ME} : wE (mIf t a b) w S QW X = wE t w S (fun c S1 => (c = true → wE a w S1 QW X) ∧ (c = false → wE b w S1 QW X)) X := by
  unfold wE mIf
  rw [okR_bind]
  congr
  funext c S1
  cases c <;> simp
theorem wE_chain {f f' : D → D → Option D} {a b c : ME} : wE (mChain f f' a b c) w S QW X = wE a w S (fun x S1 => wE b w S1 (fun y S2 => okR (o2 f x y S2) (fun z S3 => okM (blW z) fun k => (k = true → wE c w S3 (fun v S4 => okR (o2 f' y v S4) QW X) X) ∧ (k = false → QW (.d (.bl false)) S3)) X) X) X := by
  unfold wE mChain
  rw [okR_bind]
  congr
  funext x S1
  rw [okR_bind]
  congr
  funext y S2
  rw [okR_bind]
  congr
  funext z S3
  cases blW z with
  | none => rfl
  | some k =>
    cases k with
    | false => simp [okM, okR]
    | true =>
      simp only [okM, true_implies]
      exact propext ⟨fun h => ⟨okR_bind ▸ h, fun z => nomatch z⟩, fun h => okR_bind ▸ h.1⟩
theorem wE_nil : wE mNil w S QL X = QL [] S := nrfl rfl
theorem wE_cons {a : ME} {r : MA} : wE (mCons a r) w S QL X = wE a w S (fun x S1 => wE r w S1 (fun xs S2 => QL (x :: xs) S2) X) X := by
  unfold wE mCons
  rw [okR_bind]
  congr
  funext x S1
  rw [okR_bind]
  rfl
theorem wE_fn {f : List D → Option D} {m : MA} : wE (mFn f m) w S QW X = wE m w S (fun xs S1 => okM (vws xs S1) fun ds => okM (f ds) fun c => QW (.d c) S1) X := by
  unfold wE mFn mFnA
  rw [okR_bind]
  congr
  funext xs S1
  unfold oA
  cases vws xs S1 with
  | none => rfl
  | some ds => exact ok_ans
theorem wE_tup {m : MA} : wE (mTup m) w S QW X = wE m w S (fun xs S1 => okR (tupO xs S1) QW X) X := okR_bind
theorem wE_lst {m : MA} : wE (mLst m) w S QW X = wE m w S (fun xs S1 => okR (lstO xs S1) QW X) X := okR_bind
theorem wE_new {m : MA} : wE (mNew m) w S QW X = wE m w S (fun xs S1 => okR (newO xs S1) QW X) X := okR_bind
theorem ok_tup {xs : List W} : okR (tupO xs S) QW X = okM (pures xs) fun ds => ds.length ≤ sizeLine ∧ QW (.d (.tup ds)) S := by
  unfold tupO
  cases pures xs with
  | none => rfl
  | some ds => by_cases h : ds.length ≤ sizeLine <;> simp [h, okR, okM]
theorem ok_lst {xs : List W} : okR (lstO xs S) QW X = okM (pures xs) fun ds => ds.length ≤ sizeLine ∧ QW (.d (.lst ds)) S := by
  unfold lstO
  cases pures xs with
  | none => rfl
  | some ds => by_cases h : ds.length ≤ sizeLine <;> simp [h, okR, okM]
theorem ok_new {xs : List W} : okR (newO xs S) QW X = okM (pures xs) fun ds => ds.length ≤ sizeLine ∧ QW (.l S.length) (S ++ [.lst ds]) := by
  unfold newO
  cases pures xs with
  | none => rfl
  | some ds => by_cases h : ds.length ≤ sizeLine <;> simp [h, okR, okM]
theorem wE_sl {a : ME} {lo hi : MO} : wE (mSl a lo hi) w S QW X = wE a w S (fun x S1 => wE lo w S1 (fun i S2 => wE hi w S2 (fun j S3 => okM (vw x S3) fun d => okM (slD i j d) fun c => QW (.d c) S3) X) X) X := by
  unfold wE mSl
  rw [okR_bind]
  congr
  funext x S1
  rw [okR_bind]
  congr
  funext i S2
  rw [okR_bind]
  congr
  funext j S3
  exact ok_o1
theorem wE_noPart : wE mNoPart w S QO X = QO none S := nrfl rfl
theorem wE_part {a : ME} : wE (mPart a) w S QO X = wE a w S (fun x S1 => okM (vw x S1) fun d => okM (intOf d) fun i => QO (some i) S1) X := by
  unfold wE mPart
  rw [okR_bind]
  congr
  funext x S1
  cases vw x S1 with
  | none => rfl
  | some d => cases d <;> rfl
theorem wE_mth {T : String} {f : W → List W → List C → R W} {o : ME} {m : MA} : wE (mMth T f o m) w S QW X = wE o w S (fun x S1 => mtOk T x S1 = true ∧ wE m w S1 (fun xs S2 => okR (f x xs S2) QW X) X) X := by
  unfold wE mMth
  rw [okR_bind]
  congr
  funext x S1
  by_cases h : mtOk T x S1 = true
  · rw [if_pos h, okR_bind]; simp [h]
  · rw [if_neg h]; simp [h, okR]
theorem ok_append {x : W} {xs : List W} : okR (appendO x xs S) QW X = okM (cellOf x S) fun p => match xs with
    | [.d y] => p.2.length < sizeLine ∧ QW (.d .non) (S.set p.1 (.lst (p.2 ++ [y])))
    | _ => False := by
  unfold appendO
  cases cellOf x S with
  | none => rfl
  | some p =>
    obtain ⟨n, ds⟩ := p
    match xs with
    | [] => rfl
    | [.d y] => by_cases h : ds.length < sizeLine <;> simp [h, okR, okM]
    | [.l _] => rfl
    | .d _ :: _ :: _ => rfl
    | .l _ :: _ :: _ => rfl
theorem ok_extend {x : W} {xs : List W} : okR (extendO x xs S) QW X = okM (cellOf x S) fun p => okM (vws xs S) fun vs => match vs with
    | [.lst es] => p.2.length + es.length ≤ sizeLine ∧ QW (.d .non) (S.set p.1 (.lst (p.2 ++ es)))
    | _ => False := by
  unfold extendO
  cases cellOf x S with
  | none => rfl
  | some p =>
    obtain ⟨n, ds⟩ := p
    cases vws xs S with
    | none => rfl
    | some vs =>
      simp only [okM_some]
      split
      · rename_i h1 h2
        cases h2; cases h1
        rename_i es
        by_cases h : ds.length + es.length ≤ sizeLine <;> simp [h, okR]
      · split
        · simp_all
        · rfl
theorem wE_items {a : ME} : wE (mItems a) w S QD X = wE a w S (fun x S1 => match x with
    | .d (.lst ds) => QD ds S1
    | .d (.tup ds) => QD ds S1
    | .d (.frz ds) => QD ds S1
    | .d (.str x) => QD (signsD x) S1
    | _ => False) X := by
  unfold wE mItems
  rw [okR_bind]
  congr
  funext x S1
  cases x with
  | l n => rfl
  | d d => cases d <;> rfl
theorem wE_rng1 {m : MA} : wE (mRng1 m) w S QD X = wE m w S (fun xs S1 => match xs with
    | [.d (.int j)] => (-(2 ^ 62) ≤ j ∧ j < 2 ^ 62) ∧ QD (rangeD 0 j.toNat) S1
    | _ => False) X := by
  unfold wE mRng1
  rw [okR_bind]
  congr
  funext xs S1
  split
  · rename_i j
    by_cases h : -(2 ^ 62) ≤ j ∧ j < 2 ^ 62
    · rw [if_pos h]; exact propext ⟨fun z => ⟨h, z⟩, And.right⟩
    · rw [if_neg h]; exact propext ⟨fun z => z.elim, fun z => (h z.1).elim⟩
  · first
      | rfl
      | (split; simp_all; rfl)
theorem wE_rng2 {m : MA} : wE (mRng2 m) w S QD X = wE m w S (fun xs S1 => match xs with
    | [.d (.int i), .d (.int j)] => (-(2 ^ 62) ≤ i ∧ i < 2 ^ 62 ∧ -(2 ^ 62) ≤ j ∧ j < 2 ^ 62) ∧ QD (rangeD i (j - i).toNat) S1
    | _ => False) X := by
  unfold wE mRng2
  rw [okR_bind]
  congr
  funext xs S1
  split
  · rename_i i j
    by_cases h : -(2 ^ 62) ≤ i ∧ i < 2 ^ 62 ∧ -(2 ^ 62) ≤ j ∧ j < 2 ^ 62
    · rw [if_pos h]; exact propext ⟨fun z => ⟨h, z⟩, And.right⟩
    · rw [if_neg h]; exact propext ⟨fun z => z.elim, fun z => (h z.1).elim⟩
  · first
      | rfl
      | (split; simp_all; rfl)
theorem wE_zip {m : MA} : wE (mZip m) w S QD X = wE m w S (fun xs S1 => match xs with
    | [.d (.lst a), .d (.lst b)] => QD (zipD a b) S1
    | _ => False) X := by
  unfold wE mZip
  rw [okR_bind]
  congr
  funext xs S1
  split
  · rfl
  · first
      | rfl
      | (split; simp_all; rfl)
theorem wE_callP {F : List D → RP} {m : MA} : wE (mCallP F m) w S QW X = wE m w S (fun xs S1 => okM (pures xs) fun ds => okP (F ds) (fun d => QW (.d d) S1) (fun x => X x S1)) X := by
  unfold wE mCallP
  rw [okR_bind]
  congr
  funext xs S1
  cases pures xs with
  | none => rfl
  | some ds => show okR ((F ds).toR S1) QW X = okP (F ds) _ _; cases F ds <;> rfl
theorem wE_callS {F : List W → List C → R W} {m : MA} : wE (mCallS F m) w S QW X = wE m w S (fun xs S1 => okR (F xs S1) QW X) X := okR_bind
theorem wS_for {mi : MI} {t : MG} {fg : List Nat} {body : MS} : wS (sFor mi t fg body) w S K = wE mi w S (fun ds S1 => wS (forD t fg body ds) w S1 K) (fun x S1 => K (.exc x w S1)) := K_stm
theorem okP_runP {np n : Nat} {m : MS} {ds : List D} {Q : D → Prop} {X : Ex → Prop} : okP (runP np n m ds) Q X = (ds.length = np ∧ wS m (ent (ds.map W.d) (n - ds.length)) [] fun o => match o with
    | .rt (.d d) _ => Q d
    | .nx _ _ => Q .non
    | .exc x _ _ => X x
    | _ => False) := by
  unfold runP
  by_cases h : ds.length = np
  · rw [if_pos h]
    simp only [h, true_and]
    unfold wS
    cases m (ent (ds.map W.d) (n - np)) [] with
    | rt x S => cases x <;> rfl
    | _ => rfl
  · rw [if_neg h]; exact propext ⟨fun z => z.elim, fun z => (h z.1).elim⟩
theorem okR_runS {np n : Nat} {m : MS} {ws : List W} : okR (runS np n m ws S) QW X = (ws.length = np ∧ wS m (ent ws (n - ws.length)) S fun o => match o with
    | .rt x S1 => okR (cutR S.length x S1) QW X
    | .nx _ S1 => QW (.d .non) (S1.take S.length)
    | .exc x _ S1 => X x (S1.take S.length)
    | _ => False) := by
  unfold runS
  by_cases h : ws.length = np
  · rw [if_pos h]
    simp only [h, true_and]
    unfold wS
    cases m (ent ws (n - np)) S with
    | rt x S => rfl
    | _ => rfl
  · rw [if_neg h]; exact propext ⟨fun z => z.elim, fun z => (h z.1).elim⟩
theorem ok_gSet {i : Nat} {x : W} {QLw : Lw → List C → Prop} : okR (gSet i x w S) QLw X = QLw (w.set i (some x)) S := nrfl rfl
theorem ok_gSub {o i : ME} {x : W} {QLw : Lw → List C → Prop} : okR (gSub o i x w S) QLw X = wE o w S (fun p S1 => wE i w S1 (fun k S2 => okR (setItem p k x S2) (fun _ S3 => QLw w S3) X) X) X := by
  unfold gSub wE
  rw [okR_bind]
  congr
  funext p S1
  rw [okR_bind]
  congr
  funext k S2
  rw [okR_bind]
  rfl
theorem ok_gSeq {ms : List MG} {ds : List D} {QLw : Lw → List C → Prop} : okR (gSeqM ms (.d (.tup ds)) w S) QLw X = (ds.length = ms.length ∧ okR (gAll ms ds w S) QLw X) := by
  unfold gSeqM vw
  by_cases h : ds.length = ms.length <;> simp [h, okR]
theorem ok_gSeqL {ms : List MG} {ds : List D} {QLw : Lw → List C → Prop} : okR (gSeqM ms (.d (.lst ds)) w S) QLw X = (ds.length = ms.length ∧ okR (gAll ms ds w S) QLw X) := by
  unfold gSeqM vw
  by_cases h : ds.length = ms.length <;> simp [h, okR]
theorem ok_gAll_nil {QLw : Lw → List C → Prop} : okR (gAll [] [] w S) QLw X = QLw w S := nrfl rfl
theorem ok_gAll_cons {m : MG} {ms : List MG} {d : D} {ds : List D} {QLw : Lw → List C → Prop} : okR (gAll (m :: ms) (d :: ds) w S) QLw X = okR (m (.d d) w S) (fun w1 S1 => okR (gAll ms ds w1 S1) QLw X) X := okR_bind
end
def okL : Option C → Option D
  | some (.lst ds) => some (.lst ds)
  | _ => none
section
variable {i j : Int} {x y : Str} {xs ys : List D} {a b : D} {S : List C} {n : Nat}
theorem addD_i : addD (.int i) (.int j) = some (.int (i + j)) := nrfl rfl
theorem addD_s : addD (.str x) (.str y) = if x.length + y.length ≤ sizeLine then some (.str (x ++ y)) else none := nrfl rfl
theorem addD_l : addD (.lst xs) (.lst ys) = if xs.length + ys.length ≤ sizeLine then some (.lst (xs ++ ys)) else none := nrfl rfl
theorem addD_t : addD (.tup xs) (.tup ys) = if xs.length + ys.length ≤ sizeLine then some (.tup (xs ++ ys)) else none := nrfl rfl
theorem iaddD_i : iaddD (.int i) (.int j) = some (.int (i + j)) := nrfl rfl
theorem subD_i : subD (.int i) (.int j) = some (.int (i - j)) := nrfl rfl
theorem mulD_i : mulD (.int i) (.int j) = if (-(2 ^ 64) < i ∧ i < 2 ^ 64) ∨ (-(2 ^ 64) < j ∧ j < 2 ^ 64) then some (.int (i * j)) else none := nrfl rfl
theorem fdivD_i : fdivD (.int i) (.int j) = if 0 < j ∧ j < 1073741824 then some (.int (i / j)) else none := nrfl rfl
theorem modD_i : modD (.int i) (.int j) = if 0 < j then some (.int (i % j)) else none := nrfl rfl
theorem powD_i : powD (.int i) (.int j) = if 0 ≤ j ∧ j ≤ 1000000 ∧ i.natAbs < 2 ^ 64 then some (.int (i ^ j.toNat)) else none := nrfl rfl
theorem rangeD_get {lo : Int} {n k : Nat} {d : D} (h : (rangeD lo n)[k]? = some d) : k < n ∧ d = .int (lo + k) := by
  unfold rangeD at h
  rw [List.getElem?_map] at h
  by_cases hk : k < n
  · rw [List.getElem?_range hk] at h; cases h; exact ⟨hk, rfl⟩
  · rw [List.getElem?_eq_none (by simpa using hk)] at h; cases h
theorem rangeD_len {lo : Int} {n : Nat} : (rangeD lo n).length = n := by unfold rangeD; simp
theorem isi_ii : isiD "int" (.int i) = some (.bl true) := nrfl (congrArg (fun b => some (D.bl b)) (show isTy "int" "int" = true from by decide))
theorem isi_bi : isiD "bool" (.int i) = some (.bl false) := nrfl (congrArg (fun b => some (D.bl b)) (show isTy "bool" "int" = false from by decide))
theorem isi_tt : isiD "tuple" (.tup xs) = some (.bl true) := nrfl (congrArg (fun b => some (D.bl b)) (show isTy "tuple" "tuple" = true from by decide))
theorem isi_ss : isiD "str" (.str x) = some (.bl true) := nrfl (congrArg (fun b => some (D.bl b)) (show isTy "str" "str" = true from by decide))
theorem isi_ll : isiD "list" (.lst xs) = some (.bl true) := nrfl (congrArg (fun b => some (D.bl b)) (show isTy "list" "list" = true from by decide))
theorem negD_i : negD (.int i) = some (.int (-i)) := nrfl rfl
theorem lt_i : cmpLt (.int i) (.int j) = some (.bl (decide (i < j))) := nrfl rfl
theorem le_i : cmpLe (.int i) (.int j) = some (.bl (decide (i ≤ j))) := nrfl rfl
theorem gt_i : cmpGt (.int i) (.int j) = some (.bl (decide (j < i))) := nrfl rfl
theorem ge_i : cmpGe (.int i) (.int j) = some (.bl (decide (j ≤ i))) := nrfl rfl
theorem eq_i : cmpEq (.int i) (.int j) = some (.bl (decide (i = j))) := by
  unfold cmpEq eqC
  simp [nilly, eqOk, eqD]
  by_cases h : i = j <;> simp [h]
theorem ne_i : cmpNe (.int i) (.int j) = some (.bl (!decide (i = j))) := by
  unfold cmpNe eqC
  simp [nilly, eqOk, eqD]
  by_cases h : i = j <;> simp [h]
theorem eq_s : cmpEq (.str x) (.str y) = some (.bl (x == y)) := by
  unfold cmpEq eqC
  simp [eqOk, eqD]
theorem ne_s : cmpNe (.str x) (.str y) = some (.bl !(x == y)) := by
  unfold cmpNe eqC
  simp [eqOk, eqD]
theorem eq_nl : cmpEq (.lst xs) (.lst []) = some (.bl xs.isEmpty) := by
  unfold cmpEq eqC
  cases xs <;> simp [nilly, eqOk, eqD, eqDs]
theorem ne_nl : cmpNe (.lst xs) (.lst []) = some (.bl !xs.isEmpty) := by
  unfold cmpNe eqC
  cases xs <;> simp [nilly, eqOk, eqD, eqDs]
theorem truD_bl {k : Bool} : truD (.bl k) = some k := nrfl rfl
theorem truD_int : truD (.int i) = some (i != 0) := nrfl rfl
theorem truD_lst : truD (.lst xs) = some !xs.isEmpty := nrfl rfl
theorem truD_tup : truD (.tup xs) = some !xs.isEmpty := nrfl rfl
theorem truD_str : truD (.str x) = some (x.length != 0) := nrfl rfl
theorem truD_non : truD .non = some false := nrfl rfl
theorem len_s : lenF [.str x] = some (.int x.length) := nrfl rfl
theorem len_t : lenF [.tup xs] = some (.int xs.length) := nrfl rfl
theorem len_l : lenF [.lst xs] = some (.int xs.length) := nrfl rfl
theorem len_f : lenF [.frz xs] = some (.int xs.length) := nrfl rfl
theorem int_i : intF [.int i] = some (.int i) := nrfl rfl
theorem int_b {k : Bool} : intF [.bl k] = some (.int (if k = true then 1 else 0)) := nrfl rfl
theorem max2_i : max2F [.int i, .int j] = some (.int (max i j)) := nrfl rfl
theorem min2_i : min2F [.int i, .int j] = some (.int (min i j)) := nrfl rfl
theorem tuple_l : tupleF [.lst xs] = some (.tup xs) := nrfl rfl
theorem intOf_i : intOf (.int i) = some i := nrfl rfl
theorem vw_d : vw (.d a) S = some a := nrfl rfl
theorem vw_l : vw (.l n) S = okL S[n]? := by
  unfold vw okL
  rfl
theorem okL_s : okL (some (.lst xs)) = some (.lst xs) := nrfl rfl
theorem ix_t : ixD (.tup xs) (.int i) = atI xs i := nrfl rfl
theorem ix_l : ixD (.lst xs) (.int i) = atI xs i := nrfl rfl
theorem ix_f : ixD (.frz xs) (.int i) = atI xs i := nrfl rfl
theorem sl_t {lo hi : Option Int} : slD lo hi (.tup xs) = some (.tup (cutL xs lo hi)) := nrfl rfl
theorem sl_l {lo hi : Option Int} : slD lo hi (.lst xs) = some (.lst (cutL xs lo hi)) := nrfl rfl
theorem atI_n {α : Type} (xs : List α) (j : Nat) : atI xs (j : Int) = xs[j]? := by
  unfold atI ixN
  by_cases h : j < xs.length
  · rw [if_pos (by omega), if_pos (by omega)]; simp
  · rw [if_pos (by omega), if_neg (by omega)]; simp [List.getElem?_eq_none (by omega : xs.length ≤ j)]
theorem atI_0 {α : Type} (xs : List α) : atI xs 0 = xs[0]? := atI_n xs 0
theorem atI_1 {α : Type} (xs : List α) : atI xs 1 = xs[1]? := atI_n xs 1
theorem atI_2 {α : Type} (xs : List α) : atI xs 2 = xs[2]? := atI_n xs 2
theorem atI_3 {α : Type} (xs : List α) : atI xs 3 = xs[3]? := atI_n xs 3
theorem atI_4 {α : Type} (xs : List α) : atI xs 4 = xs[4]? := atI_n xs 4
theorem atI_5 {α : Type} (xs : List α) : atI xs 5 = xs[5]? := atI_n xs 5
theorem atI_6 {α : Type} (xs : List α) : atI xs 6 = xs[6]? := atI_n xs 6
theorem atI_neg1 {α : Type} (xs : List α) : atI xs (-1) = xs.getLast? := by
  cases h : xs.reverse with
  | nil => rw [List.reverse_eq_nil_iff.mp h]; rfl
  | cons a r =>
    have e : xs = r.reverse ++ [a] := by rw [← List.reverse_reverse xs, h, List.reverse_cons]
    rw [e, atI_last]
    simp
theorem atI_in {α : Type} {xs : List α} {i : Int} (h0 : 0 ≤ i) (h1 : i < xs.length) : atI xs i = some (xs[i.toNat]'(by omega)) := by
  have e := atI_n xs i.toNat
  rw [Int.toNat_of_nonneg h0] at e
  rw [e]
  exact List.getElem?_eq_getElem _
theorem ixN_0 {n : Nat} : ixN (n + 1) 0 = some 0 := by unfold ixN; rw [if_pos (by omega), if_pos (by omega)]; rfl
theorem ixN_1 {n : Nat} : ixN (n + 2) 1 = some 1 := by unfold ixN; rw [if_pos (by omega), if_pos (by omega)]; rfl
theorem ixN_21 : ixN 2 1 = some 1 := ixN_1
theorem ixN_20 : ixN 2 0 = some 0 := ixN_0
theorem ixN_neg1 {n : Nat} (h : 0 < n) : ixN n (-1) = some (n - 1) := by
  unfold ixN
  rw [if_neg (by omega), if_pos (by omega)]
  congr 1
  omega
theorem getLast?_of {α : Type} {xs : List α} {x : α} : (xs ++ [x]).getLast? = some x := by simp
end
end Mi

namespace Mi
open PySem PySem.Spec PyProof.Rows L2
/-! ### loops -/
def loopK (fg : List Nat) (I : Lw → List C → Prop) (K : KO) : KO := fun o => match o with
  | .nx w S => I (forget fg w) S
  | .ct w S => I (forget fg w) S
  | .bk w S => K (.nx (forget fg w) S)
  | .rt x S => K (.rt x S)
  | .exc x w S => K (.exc x w S)
  | .bad => False
section
variable {X : XP} {w : Lw} {S : List C} {K : KO} {fg : List Nat} {I : Lw → List C → Prop}
theorem loopK_nx : loopK fg I K (.nx w S) = I (forget fg w) S := nrfl rfl
theorem loopK_ct : loopK fg I K (.ct w S) = I (forget fg w) S := nrfl rfl
theorem loopK_bk : loopK fg I K (.bk w S) = K (.nx (forget fg w) S) := nrfl rfl
theorem loopK_rt {x : W} : loopK fg I K (.rt x S) = K (.rt x S) := nrfl rfl
theorem loopK_exc {x : Ex} : loopK fg I K (.exc x w S) = K (.exc x w S) := nrfl rfl
theorem forD_inv {t : MG} {body : MS} (I : Nat → Lw → List C → Prop) : ∀ (ds : List D) (k : Nat) (w : Lw) (S : List C), I k w S →
    (∀ i d w S, ds[i]? = some d → I (k + i) w S → okR (t (.d d) w S) (fun w1 S1 => wS body w1 S1 (loopK fg (I (k + i + 1)) K)) noX) → (∀ w S, I (k + ds.length) w S → K (.nx w S)) → wS (forD t fg body ds) w S K
  | [], k, w, S, h0, _, done => done w S h0
  | d :: ds, k, w, S, h0, step, done => by
    have h1 := step 0 d w S rfl h0
    show okO ((t (.d d) w S).nox.stm w _) K
    rw [K_stm, okR_nox]
    refine okR_mono h1 (fun w1 S1 h2 => ?_) fun _ _ z => z.elim
    unfold wS at h2
    cases e : body w1 S1 with
    | nx w2 S2 =>
      rw [e] at h2
      exact forD_inv I ds (k + 1) _ S2 h2 (fun i d w S hd hi => by
        have z := step (i + 1) d w S hd (by rw [show k + (i + 1) = k + 1 + i by omega]; exact hi)
        rw [show k + (i + 1) + 1 = k + 1 + i + 1 by omega] at z
        exact z) (fun w S hi => done w S (by rw [List.length_cons, show k + (ds.length + 1) = k + 1 + ds.length by omega]; exact hi))
    | ct w2 S2 =>
      rw [e] at h2
      exact forD_inv I ds (k + 1) _ S2 h2 (fun i d w S hd hi => by
        have z := step (i + 1) d w S hd (by rw [show k + (i + 1) = k + 1 + i by omega]; exact hi)
        rw [show k + (i + 1) + 1 = k + 1 + i + 1 by omega] at z
        exact z) (fun w S hi => done w S (by rw [List.length_cons, show k + (ds.length + 1) = k + 1 + ds.length by omega]; exact hi))
    | rt x S2 => rw [e] at h2; exact h2
    | bk w2 S2 => rw [e] at h2; exact h2
    | exc x w2 S2 => rw [e] at h2; exact h2
    | bad => rw [e] at h2; exact h2.elim
theorem for_inv {t : MG} {body : MS} {ds : List D} (I : Nat → Lw → List C → Prop) (h0 : I 0 w S)
    (step : ∀ i d w S, ds[i]? = some d → I i w S → okR (t (.d d) w S) (fun w1 S1 => wS body w1 S1 (loopK fg (I (i + 1)) K)) noX) (done : ∀ w S, I ds.length w S → K (.nx w S)) : wS (forD t fg body ds) w S K :=
  forD_inv I ds 0 w S h0 (fun i d w S hd hi => by rw [Nat.zero_add] at hi ⊢; exact step i d w S hd hi) (fun w S hi => done w S (by rw [Nat.zero_add] at hi; exact hi))
theorem while_inv {c : MT} {body : MS} (M : Nat → Lw → List C → Prop) (n : Nat) (h0 : M n w S)
    (step : ∀ n w S, M n w S → wE c w S (fun k S1 => (k = true → wS body w S1 (loopK fg (fun w S => ∃ m, m < n ∧ M m w S) K)) ∧ (k = false → K (.nx w S1))) (fun x S1 => K (.exc x w S1))) : wS (sWhile c fg body) w S K := by
  induction n using Nat.strongRecOn generalizing w S with
  | _ n ih =>
    have h1 := step n w S h0
    unfold wS
    rw [sWhile_eq, K_stm]
    refine okR_mono h1 (fun k S1 h2 => ?_) fun x S1 h2 => h2
    cases k with
    | false => exact h2.2 rfl
    | true =>
      have h3 := h2.1 rfl
      unfold wS at h3
      simp only [if_true]
      cases e : body w S1 with
      | nx w2 S2 => rw [e] at h3; obtain ⟨m, hm, q⟩ := h3; exact ih m hm q
      | ct w2 S2 => rw [e] at h3; obtain ⟨m, hm, q⟩ := h3; exact ih m hm q
      | rt x S2 => rw [e] at h3; exact h3
      | bk w2 S2 => rw [e] at h3; exact h3
      | exc x w2 S2 => rw [e] at h3; exact h3
      | bad => rw [e] at h3; exact h3.elim
theorem lcD_inv {t : MG} {tt : MT} {te : ME} {Q : List D → List C → Prop} (I : Nat → List D → List C → Prop) : ∀ (ds : List D) (k : Nat) (acc : List D) (S : List C), I k acc S →
    (∀ i d acc S, ds[i]? = some d → I (k + i) acc S → okR (t (.d d) w S) (fun w1 S1 => wE tt w1 S1 (fun b S2 => (b = true → wE te w1 S2 (fun y S3 => ∃ z, y = .d z ∧ acc.length < sizeLine ∧ I (k + i + 1) (acc ++ [z]) S3) noX) ∧ (b = false → I (k + i + 1) acc S2)) noX) noX) →
    (∀ acc S, I (k + ds.length) acc S → Q acc S) → okR (lcD t tt te ds acc w S) Q X
  | [], k, acc, S, h0, _, done => done acc S h0
  | d :: ds, k, acc, S, h0, step, done => by
    have h1 := step 0 d acc S rfl h0
    have next : ∀ acc' S', I (k + 0 + 1) acc' S' → okR (lcD t tt te ds acc' w S') Q X := fun acc' S' h => lcD_inv I ds (k + 1) acc' S' h (fun i d acc S hd hi => by
        have z := step (i + 1) d acc S hd (by rw [show k + (i + 1) = k + 1 + i by omega]; exact hi)
        rw [show k + (i + 1) + 1 = k + 1 + i + 1 by omega] at z
        exact z) (fun w S hi => done w S (by rw [List.length_cons, show k + (ds.length + 1) = k + 1 + ds.length by omega]; exact hi))
    show okR ((t (.d d) w S).nox.bind _) Q X
    rw [okR_bind, okR_nox]
    refine okR_mono h1 (fun w1 S1 h2 => ?_) fun _ _ z => z.elim
    rw [okR_bind, okR_nox]
    refine okR_mono h2 (fun b S2 h3 => ?_) fun _ _ z => z.elim
    cases b with
    | false => exact next _ _ (h3.2 rfl)
    | true =>
      simp only [if_true]
      rw [okR_bind, okR_nox]
      refine okR_mono (h3.1 rfl) (fun y S3 ⟨z, e, hz, h4⟩ => ?_) fun _ _ z => z.elim
      subst e
      simp only [if_pos hz]
      exact next _ _ h4
theorem lc_inv {mi : MI} {vs : List Nat} {t : MG} {tt : MT} {te : ME} {Q : W → List C → Prop} (h : wE mi w S (fun ds S1 => okR (lcD t tt te ds [] (forget vs w) S1) (fun ys S2 => Q (.d (.lst ys)) S2) X) X) : wE (mLc mi vs t tt te) w S Q X := by
  unfold wE mLc at *
  rw [okR_bind]
  refine okR_mono h (fun ds S1 h1 => ?_) fun _ _ z => z
  rw [okR_bind]
  exact h1
/-- no state is touched: filter, map -/
theorem lc_pure {mi : MI} {vs : List Nat} {t : MG} {tt : MT} {te : ME} {Q : W → List C → Prop} (p : D → Bool) (f : D → D) (h : wE mi w S (fun ds S1 => ds.length ≤ sizeLine ∧ (∀ d ∈ ds, okR (t (.d d) (forget vs w) S1) (fun w1 S2 => wE tt w1 S2 (fun b S3 => b = p d ∧ (b = true → wE te w1 S3 (fun y S4 => y = .d (f d) ∧ S4 = S1) noX) ∧ (b = false → S3 = S1)) noX) noX) ∧ Q (.d (.lst ((ds.filter p).map f))) S1) X) : wE (mLc mi vs t tt te) w S Q X := by
  refine lc_inv (okR_mono h (fun ds S1 ⟨hz, hd, q⟩ => ?_) fun _ _ z => z)
  refine lcD_inv (fun i acc S => S = S1 ∧ acc = ((ds.take i).filter p).map f) ds 0 [] S1 ⟨rfl, by simp⟩ (fun i d acc S he hi => ?_) fun acc S hi => ?_
  · obtain ⟨rfl, ha⟩ := hi
    rw [Nat.zero_add] at ha ⊢
    have hlt : i < ds.length := (List.getElem?_eq_some_iff.mp he).1
    have et : ds.take (i + 1) = ds.take i ++ [d] := by rw [List.take_add_one, he]; rfl
    refine okR_mono (hd d (List.mem_of_getElem? he)) (fun w1 S2 h1 => ?_) fun _ _ z => z
    refine okR_mono h1 (fun b S3 ⟨e, h2, h3⟩ => ⟨fun hb => ?_, fun hb => ?_⟩) fun _ _ z => z
    · refine okR_mono (h2 hb) (fun y S4 ⟨e1, e2⟩ => ⟨f d, e1, ?_, e2, ?_⟩) fun _ _ z => z
      · rw [ha, List.length_map]
        refine Nat.lt_of_le_of_lt (List.length_filter_le _ _) (Nat.lt_of_lt_of_le ?_ hz)
        rw [List.length_take]; omega
      · rw [et, List.filter_append, List.map_append, ← ha]
        simp [← e, hb]
    · refine ⟨h3 hb, ?_⟩
      rw [et, List.filter_append, List.map_append, ← ha]
      simp [← e, hb]
  · obtain ⟨rfl, ha⟩ := hi
    rw [Nat.zero_add, List.take_length] at ha
    rw [ha]
    exact q
theorem ok_nest {α : Type} {mi : MI} {vs : List Nat} {t : MG} {tt : MT} {em : EM α} {acc : α} {Q : α → List C → Prop} : okR (mNest mi vs t tt em acc w S) Q X = wE mi w S (fun ds S1 => okR (loopD t tt em ds acc (forget vs w) S1) Q X) noX := by
  unfold mNest wE
  rw [okR_bind]
  cases mi w S <;> rfl
theorem ok_loopD_nil {α : Type} {t : MG} {tt : MT} {em : EM α} {acc : α} {Q : α → List C → Prop} : okR (loopD t tt em [] acc w S) Q X = Q acc S := rfl
theorem ok_loopD_cons {α : Type} {t : MG} {tt : MT} {em : EM α} {acc : α} {d : D} {ds : List D} {Q : α → List C → Prop} : okR (loopD t tt em (d :: ds) acc w S) Q X = okR (t (.d d) w S) (fun w1 S1 => wE tt w1 S1 (fun k S2 => (k = true → okR (em acc w1 S2) (fun acc S3 => okR (loopD t tt em ds acc w S3) Q X) X) ∧ (k = false → okR (loopD t tt em ds acc w S2) Q X)) noX) noX := by
  show okR ((t (.d d) w S).nox.bind _) Q X = _
  rw [okR_bind, show okR (t (.d d) w S).nox _ X = okR (t (.d d) w S) _ noX from okR_nox]
  congr
  funext w1 S1
  rw [okR_bind, okR_nox]
  unfold wE
  congr
  funext k S2
  rw [okR_bind]
  cases k <;> simp [okR]
theorem loopD_inv {α : Type} {t : MG} {tt : MT} {em : EM α} {Q : α → List C → Prop} (I : Nat → α → List C → Prop) : ∀ (ds : List D) (k : Nat) (acc : α) (S : List C), I k acc S →
    (∀ i d acc S, ds[i]? = some d → I (k + i) acc S → okR (t (.d d) w S) (fun w1 S1 => wE tt w1 S1 (fun b S2 => (b = true → okR (em acc w1 S2) (fun acc' S3 => I (k + i + 1) acc' S3) X) ∧ (b = false → I (k + i + 1) acc S2)) noX) noX) →
    (∀ acc S, I (k + ds.length) acc S → Q acc S) → okR (loopD t tt em ds acc w S) Q X
  | [], k, acc, S, h0, _, done => done acc S h0
  | d :: ds, k, acc, S, h0, step, done => by
    have h1 := step 0 d acc S rfl h0
    have next : ∀ acc' S', I (k + 0 + 1) acc' S' → okR (loopD t tt em ds acc' w S') Q X := fun acc' S' h => loopD_inv I ds (k + 1) acc' S' h (fun i d acc S hd hi => by
        have z := step (i + 1) d acc S hd (by rw [show k + (i + 1) = k + 1 + i by omega]; exact hi)
        rw [show k + (i + 1) + 1 = k + 1 + i + 1 by omega] at z
        exact z) (fun w S hi => done w S (by rw [List.length_cons, show k + (ds.length + 1) = k + 1 + ds.length by omega]; exact hi))
    rw [ok_loopD_cons]
    refine okR_mono h1 (fun w1 S1 h2 => ?_) fun _ _ z => z
    refine okR_mono h2 (fun b S2 h3 => ⟨fun hb => ?_, fun hb => next _ _ (h3.2 hb)⟩) fun _ _ z => z
    exact okR_mono (h3.1 hb) (fun acc' S3 h4 => next _ _ h4) fun _ _ z => z
theorem ok_emS {te : ME} {acc : List Int} {Q : List Int → List C → Prop} : okR (mEmS te acc w S) Q X = wE te w S (fun y S1 => match y with
    | .d (.int k) => acc.length + 1 < scanBound ∧ Q (if k ∈ acc then acc else acc ++ [k]) S1
    | _ => False) noX := by
  unfold mEmS wE
  rw [okR_bind, okR_nox]
  congr
  funext y S1
  cases y with
  | l n => rfl
  | d d =>
    cases d with
    | int k => by_cases h : acc.length + 1 < scanBound <;> simp [h, okR]
    | _ => rfl
theorem ok_emL {te : ME} {acc : List D} {Q : List D → List C → Prop} : okR (mEmL te acc w S) Q X = wE te w S (fun y S1 => match y with
    | .d d => acc.length < sizeLine ∧ Q (acc ++ [d]) S1
    | _ => False) noX := by
  unfold mEmL wE
  rw [okR_bind, okR_nox]
  congr
  funext y S1
  cases y with
  | l n => rfl
  | d d => by_cases h : acc.length < sizeLine <;> simp [h, okR]
theorem sortSet_inv {mi : MI} {js : List Nat} {t : MG} {tt : MT} {em : EM (List Int)} {Q : W → List C → Prop}
    (h : wE mi w S (fun ds S1 => okR (loopD t tt em ds [] (forget js w) S1) (fun ns S2 => ns.length < 64 ∧ Q (.d (.lst ((ns.mergeSort fun a b => decide (a ≤ b)).map .int))) S2) noX) X) : wE (mSortSet mi js t tt em) w S Q X := by
  unfold wE mSortSet mGather
  rw [okR_bind, okR_bind]
  refine okR_mono h (fun ds S1 h1 => ?_) fun _ _ z => z
  rw [okR_nox]
  refine okR_mono h1 (fun ns S2 h2 => ?_) fun _ _ z => z
  unfold sortEnd
  rw [if_pos h2.1]
  exact h2.2
theorem lcN_inv {mi : MI} {js : List Nat} {t : MG} {tt : MT} {em : EM (List D)} {Q : W → List C → Prop}
    (h : wE mi w S (fun ds S1 => okR (loopD t tt em ds [] (forget js w) S1) (fun ns S2 => Q (.d (.lst ns)) S2) noX) X) : wE (mLcN mi js t tt em) w S Q X := by
  unfold wE mLcN mGather
  rw [okR_bind, okR_bind]
  refine okR_mono h (fun ds S1 h1 => ?_) fun _ _ z => z
  rw [okR_nox]
  exact okR_mono h1 (fun ns S2 h2 => h2) fun _ _ z => z
theorem wE_yes {Q : Bool → List C → Prop} : wE mYes w S Q X = Q true S := nrfl rfl
end
end Mi

namespace Mi
open PySem PySem.Spec PyProof.Rows L2
/-! ### methods of texts -/
section
variable {X : Cx} {g : G}
theorem m_of {id : String} {f : D → List D → Option D} {r : V → List V → Hp → VK → Prop} (mt : MtR X id r)
    (h : ∀ ρ S d ds c v vs H (Q : VK), Rl g.K g.F ρ S H → RepR g.K H (bar g.F ρ) d v → RepRs g.K H (bar g.F ρ) ds vs → f d ds = some c → (∀ ρ' H' u, Ext ρ H ρ' H' → Rl g.K g.F ρ' S H' → Rep g.K H' (bar g.F ρ') c u → Q u H') → r v vs H Q) : MR X g id (oM f) := by
  refine ⟨r, mt, fun ρ S x xs u us σ H Q l rx rxs hh => ?_⟩
  unfold oM at hh
  cases e1 : vw x S with
  | none => rw [e1] at hh; cases vws xs S <;> exact hh.elim
  | some d =>
    cases e2 : vws xs S with
    | none => rw [e1, e2] at hh; exact hh.elim
    | some ds =>
      simp only [e1, e2] at hh
      cases e3 : f d ds with
      | none => rw [e3] at hh; exact hh.elim
      | some c =>
        rw [e3] at hh
        exact h ρ S d ds c u us H Q l (vw_ok l rx e1) (vws_ok l e2 rxs) e3 fun ρ' H' v e l' r => hh ρ' H' v e l' r
/-- of a text alone: a truth value -/
def tB (f : Str → Bool) : D → List D → Option D
  | .str a, [] => some (.bl (f a))
  | _, _ => none
/-- of a text alone: a text -/
def tS (n : Nat) (f : Str → Str) : D → List D → Option D
  | .str a, [] => if a.length ≤ n ∧ (f a).length ≤ sizeLine then some (.str (f a)) else none
  | _, _ => none
def tB1 (f : Str → Str → Bool) : D → List D → Option D
  | .str a, [.str b] => some (.bl (f a b))
  | _, _ => none
def tS1 (f : Str → Str → Str) : D → List D → Option D
  | .str a, [.str b] => if (f a b).length ≤ sizeLine then some (.str (f a b)) else none
  | _, _ => none
def tI1 (f : Str → Str → Int) : D → List D → Option D
  | .str a, [.str b] => some (.int (f a b))
  | _, _ => none
def tFind3 : D → List D → Option D
  | .str a, [.str b, .int i] => some (.int (Txt.find3 a b i))
  | _, _ => none
def tFind4 : D → List D → Option D
  | .str a, [.str b, .int i, .int j] => some (.int (Txt.findIn a b i j))
  | _, _ => none
theorem RepRs.three {K : PySem.W.Frag} {H : Hp} {B : Addr → Prop} {d e f : D} {vs : List V} (h : RepRs K H B [d, e, f] vs) : ∃ v u z, vs = [v, u, z] ∧ RepR K H B d v ∧ RepR K H B e u ∧ RepR K H B f z := by
  obtain ⟨v, r, rfl, h1, h2⟩ := h
  obtain ⟨u, z, rfl, h3, h4⟩ := h2.two
  exact ⟨v, u, z, rfl, h1, h3, h4⟩
theorem RepRs.none {K : PySem.W.Frag} {H : Hp} {B : Addr → Prop} {vs : List V} (h : RepRs K H B [] vs) : vs = [] := h
theorem m_tB {id : String} {f : Str → Bool} (mt : MtR X id (fun x xs H Q => ∃ a, x = .str a ∧ xs = [] ∧ True ∧ Q (.bl (f a)) H)) : MR X g id (oM (tB f)) := by
  refine m_of mt fun ρ S d ds c v vs H Q l rd rds h q => ?_
  unfold tB at h
  split at h
  · cases h
    obtain ⟨e1, e2⟩ := RepR.str_inv rd
    exact ⟨_, e1, rds.none, trivial, same_q l (.bl _) q⟩
  · cases h
theorem m_tS {id : String} {n : Nat} {f : Str → Str} (mt : MtR X id (fun x xs H Q => ∃ a, x = .str a ∧ xs = [] ∧ a.length ≤ n ∧ Q (.str (f a)) H)) : MR X g id (oM (tS n f)) := by
  refine m_of mt fun ρ S d ds c v vs H Q l rd rds h q => ?_
  unfold tS at h
  split at h
  · split at h
    · rename_i hz
      cases h
      obtain ⟨e1, e2⟩ := RepR.str_inv rd
      exact ⟨_, e1, rds.none, hz.1, same_q l (.str hz.2) q⟩
    · cases h
  · cases h
theorem m_tB1 {id : String} {f : Str → Str → Bool} (mt : MtR X id (fun x xs H Q => ∃ a b, x = .str a ∧ xs = [.str b] ∧ Q (.bl (f a b)) H)) : MR X g id (oM (tB1 f)) := by
  refine m_of mt fun ρ S d ds c v vs H Q l rd rds h q => ?_
  unfold tB1 at h
  split at h
  · cases h
    obtain ⟨e1, e2⟩ := RepR.str_inv rd
    obtain ⟨u, rfl, r2⟩ := rds.one
    obtain ⟨e3, e4⟩ := RepR.str_inv r2
    exact ⟨_, _, e1, by rw [e3], same_q l (.bl _) q⟩
  · cases h
theorem m_tI1 {id : String} {f : Str → Str → Int} (mt : MtR X id (fun x xs H Q => ∃ a b, x = .str a ∧ xs = [.str b] ∧ Q (.int (f a b)) H)) : MR X g id (oM (tI1 f)) := by
  refine m_of mt fun ρ S d ds c v vs H Q l rd rds h q => ?_
  unfold tI1 at h
  split at h
  · cases h
    obtain ⟨e1, e2⟩ := RepR.str_inv rd
    obtain ⟨u, rfl, r2⟩ := rds.one
    obtain ⟨e3, e4⟩ := RepR.str_inv r2
    exact ⟨_, _, e1, by rw [e3], same_q l (.int _) q⟩
  · cases h
theorem m_tS1 {id : String} {f : Str → Str → Str} (mt : MtR X id (fun x xs H Q => ∃ a b, x = .str a ∧ xs = [.str b] ∧ a.length ≤ sizeLine ∧ Q (.str (f a b)) H)) : MR X g id (oM (tS1 f)) := by
  refine m_of mt fun ρ S d ds c v vs H Q l rd rds h q => ?_
  unfold tS1 at h
  split at h
  · split at h
    · rename_i hz
      cases h
      obtain ⟨e1, e2⟩ := RepR.str_inv rd
      obtain ⟨u, rfl, r2⟩ := rds.one
      obtain ⟨e3, e4⟩ := RepR.str_inv r2
      exact ⟨_, _, e1, by rw [e3], e2, same_q l (.str hz) q⟩
    · cases h
  · cases h
theorem m_find3 : MR X g "str.find" (oM tFind3) := by
  refine m_of mt_find3 fun ρ S d ds c v vs H Q l rd rds h q => ?_
  unfold tFind3 at h
  split at h
  · cases h
    obtain ⟨e1, e2⟩ := RepR.str_inv rd
    obtain ⟨u, z, rfl, r2, r3⟩ := rds.two
    obtain ⟨e3, e4⟩ := RepR.str_inv r2
    exact ⟨_, _, _, e1, by rw [e3, RepR.int_inv r3], same_q l (.int _) q⟩
  · cases h
theorem m_find4 : MR X g "str.find" (oM tFind4) := by
  refine m_of mt_find4 fun ρ S d ds c v vs H Q l rd rds h q => ?_
  unfold tFind4 at h
  split at h
  · cases h
    obtain ⟨e1, e2⟩ := RepR.str_inv rd
    obtain ⟨u, z, y, rfl, r2, r3, r4⟩ := rds.three
    obtain ⟨e3, e4⟩ := RepR.str_inv r2
    exact ⟨_, _, _, _, e1, by rw [e3, RepR.int_inv r3, RepR.int_inv r4], same_q l (.int _) q⟩
  · cases h
/-- lists of texts -/
def short (ys : List Str) : Bool := ys.all fun y => decide (y.length ≤ sizeLine)
def strsD (ys : List Str) : Option D := if short ys = true then some (.lst (ys.map .str)) else none
theorem strs_reps {K : PySem.W.Frag} {H : Hp} {B : Addr → Prop} : ∀ {ys : List Str}, short ys = true → Reps K H B (ys.map D.str) (ys.map V.str)
  | [], _ => Reps.nil
  | y :: r, h => by
    unfold short at h
    rw [List.all_cons, Bool.and_eq_true, decide_eq_true_eq] at h
    exact Reps.cons (.str h.1) (strs_reps h.2)
theorem new_strs {ρ : List (Option Addr)} {S : List C} {H : Hp} {Q : VK} {ys : List Str} {c : D} (l : Rl g.K g.F ρ S H) (h : strsD ys = some c) (q : ∀ ρ' H' u, Ext ρ H ρ' H' → Rl g.K g.F ρ' S H' → Rep g.K H' (bar g.F ρ') c u → Q u H') : rNewStrs ys H Q := by
  intro p hp
  unfold strsD at h
  split at h
  · rename_i hz
    cases h
    exact q ρ _ _ (ext_new hp) (rl_new l hp) (Rep.lst upd_same (fun z => new_nb l hp z) (strs_reps hz))
  · cases h
def tSplit : D → List D → Option D
  | .str a, [.str b] => if b.length ≠ 0 ∧ a.length + 2 ≤ sizeLine then strsD (Txt.split a b) else none
  | _, _ => none
theorem m_split : MR X g "str.split" (oM tSplit) := by
  refine m_of mt_split fun ρ S d ds c v vs H Q l rd rds h q => ?_
  unfold tSplit at h
  split at h
  · split at h
    · rename_i hz
      obtain ⟨e1, e2⟩ := RepR.str_inv rd
      obtain ⟨u, rfl, r2⟩ := rds.one
      obtain ⟨e3, e4⟩ := RepR.str_inv r2
      exact ⟨_, _, e1, by rw [e3], by rw [beq_eq_false_iff_ne]; exact hz.1, hz.2, new_strs l h q⟩
    · cases h
  · cases h
def tWords : D → List D → Option D
  | .str a, [] => if a.length + 2 ≤ sizeLine then strsD (Txt.words a) else none
  | _, _ => none
theorem m_words : MR X g "str.split" (oM tWords) := by
  refine m_of mt_words fun ρ S d ds c v vs H Q l rd rds h q => ?_
  unfold tWords at h
  split at h
  · split at h
    · rename_i hz
      obtain ⟨e1, e2⟩ := RepR.str_inv rd
      exact ⟨_, e1, rds.none, hz, new_strs l h q⟩
    · cases h
  · cases h
def tPart : D → List D → Option D
  | .str a, [.str b] => if b.length ≠ 0 ∧ short [(Txt.partition a b).1, (Txt.partition a b).2.1, (Txt.partition a b).2.2] = true then some (.tup [.str (Txt.partition a b).1, .str (Txt.partition a b).2.1, .str (Txt.partition a b).2.2]) else none
  | _, _ => none
theorem m_partition : MR X g "str.partition" (oM tPart) := by
  refine m_of mt_partition fun ρ S d ds c v vs H Q l rd rds h q => ?_
  unfold tPart at h
  split at h
  · split at h
    · rename_i hz
      cases h
      obtain ⟨e1, e2⟩ := RepR.str_inv rd
      obtain ⟨u, rfl, r2⟩ := rds.one
      obtain ⟨e3, e4⟩ := RepR.str_inv r2
      refine ⟨_, _, e1, by rw [e3], by rw [beq_eq_false_iff_ne]; exact hz.1, e2, fun p hp => q ρ _ _ (ext_new hp) (rl_new l hp) ?_⟩
      simp only [Rep]
      exact ⟨p, _, rfl, .inl ⟨.inl upd_same, fun z => new_nb l hp z⟩, strs_reps hz.2⟩
    · cases h
  · cases h
def strOf : D → Option Str
  | .str a => some a
  | _ => none
def strsOf : List D → Option (List Str)
  | [] => some []
  | d :: ds => match strOf d, strsOf ds with
    | some a, some r => some (a :: r)
    | _, _ => none
theorem strsOf_rep {K : PySem.W.Frag} {H : Hp} {B : Addr → Prop} : ∀ {ds : List D} {ys : List Str} {vs : List V}, strsOf ds = some ys → Reps K H B ds vs → vs = ys.map V.str
  | [], ys, vs, e, r => by cases e; rw [r.nil_inv]; rfl
  | d :: ds, ys, vs, e, r => by
    obtain ⟨v, q, rfl, r1, r2⟩ := r.cons_inv
    simp only [strsOf] at e
    cases h1 : strOf d with
    | none => rw [h1] at e; cases e
    | some i =>
      cases h2 : strsOf ds with
      | none => rw [h1, h2] at e; cases e
      | some m =>
        rw [h1, h2] at e
        cases e
        cases d <;> simp only [strOf] at h1 <;> cases h1
        obtain ⟨e1, _⟩ := RepR.str_inv (RepR.of r1)
        rw [e1, strsOf_rep h2 r2]
        rfl
def tJoin : D → List D → Option D
  | .str a, [.lst ds] => match strsOf ds with
    | some ys => if (ys.map (·.length)).sum + ys.length * a.length ≤ 16777216 ∧ (Txt.join a ys).length ≤ sizeLine then some (.str (Txt.join a ys)) else none
    | none => none
  | .str a, [.tup ds] => match strsOf ds with
    | some ys => if (ys.map (·.length)).sum + ys.length * a.length ≤ 16777216 ∧ (Txt.join a ys).length ≤ sizeLine then some (.str (Txt.join a ys)) else none
    | none => none
  | _, _ => none
theorem m_join (hK : g.K = X.K := by rfl) : MR X g "str.join" (oM tJoin) := by
  refine m_of mt_join fun ρ S d ds c v vs H Q l rd rds h q => ?_
  unfold tJoin at h
  split at h
  · obtain ⟨e1, e2⟩ := RepR.str_inv rd
    obtain ⟨u, rfl, r2⟩ := rds.one
    obtain ⟨p, us, rfl, h1, h2⟩ := RepR.lst_inv r2
    split at h
    · rename_i ys hy
      split at h
      · rename_i hz
        cases h
        have e := strsOf_rep hy h2
        subst e
        exact ⟨_, p, ys, e1, rfl, .inl (.of h1), hz.1, same_q l (.str hz.2) q⟩
      · cases h
    · cases h
  · obtain ⟨e1, e2⟩ := RepR.str_inv rd
    obtain ⟨u, rfl, r2⟩ := rds.one
    obtain ⟨p, us, rfl, h1, h2⟩ := RepR.tup_inv r2
    split at h
    · rename_i ys hy
      split at h
      · rename_i hz
        cases h
        have e := strsOf_rep hy h2
        subst e
        exact ⟨_, p, ys, e1, rfl, .inr (hK ▸ h1.of), hz.1, same_q l (.str hz.2) q⟩
      · cases h
    · cases h
  · cases h
/-! ### int(text), str(n) -/
def int2F : List D → Option D
  | [.int i] => some (.int i)
  | [.bl k] => some (.int (if k = true then 1 else 0))
  | [.str a] => if a.length ≤ 640 then (PySem.intText? a).map .int else none
  | _ => none
theorem f_int2 : FR X g (.type "int") int2F := by
  refine ⟨_, call_int1.or call_int_str, fun ρ S ds c vs H Q l r h q => ?_⟩
  unfold int2F at h
  split at h
  · cases h
    obtain ⟨v, rfl, r1⟩ := r.one
    exact .inl (.inl ⟨_, by rw [RepR.int_inv r1], same_q l (.int _) q⟩)
  · cases h
    obtain ⟨v, rfl, r1⟩ := r.one
    exact .inl (.inr ⟨_, by rw [RepR.bl_inv r1], same_q l (.int _) q⟩)
  · split at h
    · rename_i a hz
      obtain ⟨v, rfl, r1⟩ := r.one
      obtain ⟨e1, e2⟩ := RepR.str_inv r1
      cases e : PySem.intText? a with
      | none => rw [e] at h; cases h
      | some n =>
        rw [e] at h
        cases h
        exact .inr ⟨a, n, by rw [e1], e, hz, same_q l (.int _) q⟩
    · cases h
  · cases h
def strF : List D → Option D
  | [.int i] => if i.natAbs.log2 < 1920 ∧ (toString i : Str).length ≤ sizeLine then some (.str (toString i)) else none
  | _ => none
theorem f_str : FR X g (.type "str") strF := by
  refine ⟨_, call_str_int, fun ρ S ds c vs H Q l r h q => ?_⟩
  unfold strF at h
  split at h
  · split at h
    · rename_i hz
      cases h
      obtain ⟨v, rfl, r1⟩ := r.one
      exact ⟨_, by rw [RepR.int_inv r1], hz.1, same_q l (.str hz.2) q⟩
    · cases h
  · cases h
end
end Mi

namespace Mi
open PySem PySem.Spec PyProof.Rows L2
/-! ### own exceptions -/
section
variable {X : Cx} {e : Expr} {es : List Expr} {ta : TA} {p1 p2 pos : Pos}
/-- L.__init__(self, ..), L a class of the text over ValueError without an __init__ of its own -/
structure BaseC (K : PySem.W.Frag) (B0 : Addr) : Prop where
  ga : PySem.W.specialIn K (.ref B0) "__getattribute__" = some (some (.builtin "type.__getattribute__"))
  tm : PySem.W.typeIn K (.ref B0) = some (.type "type")
  rd : PySem.W.readsIn K B0 (.type "type") = true
  it : PySem.W.findCls K (.ref B0) (.type "type") "__init__" = some (.val (.builtin "ValueError.__init__"))
theorem pe_clsinit {L : Str} {B0 : Addr} {pl : Sem Bool} (hm : X.mg L = some (.ref B0)) (b : BaseC X.K B0) (ha : PA X (e :: es) ta) (hg : Gl X L := by rfl)
    (hc : eval (.Call (.Attribute (.Name L p1) "__init__" p2) (e :: es) [] pos) X.env = (do
      let ov ← eval (.Name L p1) X.env
      standAt p2.atName
      let (f, first) ← holding [ov] (getMethod ov "__init__" pl)
      callWith pos f first (backTo pos (starEach (e :: es) X.env)) (backToKw pos (keywordEach [] X.env))) := by rfl)
    (hdb : (L == ("__debug__" : Str)) = false := by decide)
    (he : starEach (e :: es) X.env = (false, eval e X.env) :: starEach es X.env := by rfl) (hpl : (backTo pos (starEach es X.env)).any (·.1) = false := by rfl) :
    PE X (.Call (.Attribute (.Name L p1) "__init__" p2) (e :: es) [] pos) (tVeI X.K ta) := by
  refine ⟨fun pins s σ H Q I h => ?_⟩
  refine PySem.W.methodCall_KW (ld_glob I hg hm ?_ hdb) hc
  obtain ⟨m, fr⟩ := I.fr
  refine PySem.W.method_of_cls fr I.ok.mod.kin b.ga (PySem.W.cls_val fr I.ok.mod.kin b.tm b.rd b.it (by decide +kernel) ?_)
  show wpAny _ _ (callWith pos (Value.builtin "ValueError.__init__") [] (backTo pos (starEach (e :: es) X.env)) []) _ _ _
  refine PyProof.Rows.callWith_method1 (thn (ha.run pos pins _ σ H _ (I.tok _) h) fun us s1 ⟨vs, H1, I1, r1, a, C, ws, ev, hl, T, ea, q⟩ => ?_) he hpl
  subst ev
  cases r1 with
  | @cons _ u0 _ ur ra rw' =>
    obtain rfl : u0 = Value.ref a := ra
    have hlen : ur.length ≤ sizeLine := by
      rw [← Paired.length rw', sizeLine_eq]
      omega
    exact oinit_ok T I1 ea hlen fun s' J => ⟨.non, H1, J, rfl, q⟩
end
/-- what C's __init__ does: of data come the fields -/
def spI (K : PySem.W.Frag) (C : Addr) (f : List D → Option (List Str × List D)) : Sp := fun vs H Q _ => ∃ (a : Addr) (B : Addr → Prop) (ds : List D) (us : List V), vs = .ref a :: us ∧ H a = some (exo a C none) ∧ B a ∧ (∀ b, B b → H b ≠ none) ∧ Reps K H B ds us ∧ ∃ ks xs, f ds = some (ks, xs) ∧
  ∀ (H' : Hp) (d : Addr) (ws : List V), H d = none → d ≠ a → H' a = some (exo a C (some d)) → H' d = some (exd d (ks.zip ws)) → ws.length = ks.length → Reps K H' (fun b => B b ∨ b = d) xs ws → (∀ b o, b ≠ a → H b = some o → H' b = some o) → Q .non H'
/-- the fields as they are stored, the last one first -/
def fld1 (f1 : Str) (me : ME) : List D → Option (List Str × List D)
  | [d1] => match me [none, some (.d d1)] [] with
    | .ok _ _ => some ([f1], [d1])
    | _ => none
  | _ => none
def fld2 (f1 f2 : Str) (me : ME) : List D → Option (List Str × List D)
  | [d1, d2] => match me [none, some (.d d1), some (.d d2)] [] with
    | .ok _ _ => some ([f2, f1], [d2, d1])
    | _ => none
  | _ => none
def tInit1 (K : PySem.W.Frag) (f1 : Str) (te : TE) : TS := tSeq (tDrop (tVeI K (tCons (tVar 0) (tCons te tNil)))) (tOst K f1 (tVar 0) (tVar 1))
def tInit2 (K : PySem.W.Frag) (f1 f2 : Str) (te : TE) : TS := tSeq (tDrop (tVeI K (tCons (tVar 0) (tCons te tNil)))) (tSeq (tOst K f1 (tVar 0) (tVar 1)) (tOst K f2 (tVar 0) (tVar 2)))
section
variable {P : Program} {w : World} {K : PySem.W.Frag} {mg : Str → Option Value} {base : Heap} {k : Nat} {st : Stmt} {fI C : Addr} {fd : FuncData} {qual f1 f2 a1 a2 : Str} {me : ME}
theorem rl_nil {F : Addr → Prop} {H : Hp} (h : ∀ b, F b → H b ≠ none) : Rl K F [] [] H := ⟨rfl, fun n a e => by simp at e, fun n c e => by simp at e, fun n m a e => by simp at e, h, fun n a e => by simp at e⟩
theorem init_1 (T : OexC K C) (n1 : PySem.W.findIn K (.ref C) f1 = some none) (F : Fun K "__init__" qual st fI fd) (sc : FnScope ["self", a1] ["self", a1] (defScope st))
    (hb : ∀ (cdv : Value) (A : Around) (outer : List Env) (s : Shared) (H : Hp) (E : XK) (B : Addr → Prop), PSs (cxOf (L2N.CX P w) P w K mg base ["self", a1] qual (defScope st) fI cdv A outer s H E) (defBody st) (tInit1 K f1 (LE ⟨K, mg, B, fun _ _ _ _ => False⟩ me))) :
    FnOk P w K mg base (L2N.CX P w) (k + 1) fI fd ["self", a1] (spI K C (fld1 f1 me)) := by
  have len : ∀ vs H Q E, spI K C (fld1 f1 me) vs H Q E → vs.length = (["self", a1] : List Str).length := fun vs H Q E ⟨a, B, ds, us, e, _, _, _, r, ks, xs, hf, _⟩ => by
    subst e
    rw [List.length_cons, r.length]
    unfold fld1 at hf
    split at hf
    · rfl
    · cases hf
  refine okN F sc len fun cdv A outer s H vs Q E hr ⟨a, B, ds, us, e, ha, hBa, hB, r, ks, xs, hf, q⟩ => ⟨_, hb cdv A outer s H E B, ?_⟩
  subst e
  unfold fld1 at hf
  split at hf
  · rename_i d1
    split at hf
    · rename_i x1 S1 hme
      cases hf
      obtain ⟨v1, us', rfl, r1, r2⟩ := r.cons_inv
      have e2 := r2.nil_inv
      subst e2
      have l0 : Rl K B [] [] H := rl_nil hB
      have rv : Rep K H (bar B []) d1 v1 := Rep.mono ⟨fun _ _ h _ => h, fun b o _ n m => n (m.elim id (fun z => by simp at z))⟩ _ _ r1
      refine ⟨.ref a, rfl, [], [], [none, some (.d d1)], l0, ⟨rfl, fun i x hx => ?_⟩, ?_⟩
      · match i, hx with
        | 1, hx => cases hx; exact ⟨v1, rfl, rv⟩
      · rw [hme]
        intro ρ' H1 v ex _ _
        have ka : H1 a = some (exo a C none) := ex.keep a _ ha (by simp)
        refine ⟨a, C, [v], rfl, (by simp), T, ka, ?_⟩
        refine ⟨v1, rfl, .ref a, rfl, a, C, rfl, T, n1, .inl ⟨ka, fun dx hd hne => ?_⟩⟩
        refine q _ dx [v1] ?_ hne upd_same ?_ rfl ?_ fun b o hb h => ?_
        · cases hz : H dx with
          | none => rfl
          | some o => rw [ex.keep dx o hz (by simp)] at hd; cases hd
        · rw [upd_ne hne, upd_same]
          rfl
        · refine Reps.cons (Rep.mono ⟨fun b o h n => ?_, fun b o h n z => z.elim n fun q => ?_⟩ _ _ r1) Reps.nil
          rotate_left
          · rw [q] at h; rw [ex.keep dx o h (by simp)] at hd; cases hd
          have hba : b ≠ a := fun z => n (by rw [z]; exact hBa)
          rw [upd_ne hba, upd_ne (fun z => by rw [z] at h; rw [ex.keep dx o h (by simp)] at hd; cases hd)]
          exact ex.keep b o h (by simp)
        · rw [upd_ne hb, upd_ne (fun z => by rw [z] at h; rw [ex.keep dx o h (by simp)] at hd; cases hd)]
          exact ex.keep b o h (by simp)
    · cases hf
  · cases hf
theorem init_2 (T : OexC K C) (n1 : PySem.W.findIn K (.ref C) f1 = some none) (n2 : PySem.W.findIn K (.ref C) f2 = some none) (F : Fun K "__init__" qual st fI fd) (sc : FnScope ["self", a1, a2] ["self", a1, a2] (defScope st))
    (hb : ∀ (cdv : Value) (A : Around) (outer : List Env) (s : Shared) (H : Hp) (E : XK) (B : Addr → Prop), PSs (cxOf (L2N.CX P w) P w K mg base ["self", a1, a2] qual (defScope st) fI cdv A outer s H E) (defBody st) (tInit2 K f1 f2 (LE ⟨K, mg, B, fun _ _ _ _ => False⟩ me))) :
    FnOk P w K mg base (L2N.CX P w) (k + 1) fI fd ["self", a1, a2] (spI K C (fld2 f1 f2 me)) := by
  have len : ∀ vs H Q E, spI K C (fld2 f1 f2 me) vs H Q E → vs.length = (["self", a1, a2] : List Str).length := fun vs H Q E ⟨a, B, ds, us, e, _, _, _, r, ks, xs, hf, _⟩ => by
    subst e
    rw [List.length_cons, r.length]
    unfold fld2 at hf
    split at hf
    · rfl
    · cases hf
  refine okN F sc len fun cdv A outer s H vs Q E hr ⟨a, B, ds, us, e, ha, hBa, hB, r, ks, xs, hf, q⟩ => ⟨_, hb cdv A outer s H E B, ?_⟩
  subst e
  unfold fld2 at hf
  split at hf
  · rename_i d1 d2
    split at hf
    · rename_i x1 S1 hme
      cases hf
      obtain ⟨v1, us', rfl, r1, r2⟩ := r.cons_inv
      obtain ⟨v2, us2, rfl, r3, r4⟩ := r2.cons_inv
      have e2 := r4.nil_inv
      subst e2
      have l0 : Rl K B [] [] H := rl_nil hB
      have ev0 : Ev H B H (bar B []) := ⟨fun _ _ h _ => h, fun b o _ n m => n (m.elim id (fun z => by simp at z))⟩
      refine ⟨.ref a, rfl, [], [], [none, some (.d d1), some (.d d2)], l0, ⟨rfl, fun i x hx => ?_⟩, ?_⟩
      · match i, hx with
        | 1, hx => cases hx; exact ⟨v1, rfl, Rep.mono ev0 _ _ r1⟩
        | 2, hx => cases hx; exact ⟨v2, rfl, Rep.mono ev0 _ _ r3⟩
      · rw [hme]
        intro ρ' H1 v ex _ _
        have ka : H1 a = some (exo a C none) := ex.keep a _ ha (by simp)
        refine ⟨a, C, [v], rfl, (by simp), T, ka, ?_⟩
        refine ⟨v1, rfl, .ref a, rfl, a, C, rfl, T, n1, .inl ⟨ka, fun dx hd hne => ?_⟩⟩
        have hdx : H dx = none := by
          cases hz : H dx with
          | none => rfl
          | some o => rw [ex.keep dx o hz (by simp)] at hd; cases hd
        have kd : (upd (upd H1 dx (exd dx [(f1, v1)])) a (exo a C (some dx))) dx = some (exd dx [(f1, v1)]) := by rw [upd_ne hne, upd_same]
        refine ⟨v2, rfl, .ref a, rfl, a, C, rfl, T, n2, .inr ⟨dx, [(f1, v1)], upd_same, kd, (by simp), ?_⟩⟩
        have keep : ∀ b o, b ≠ a → H b = some o → (upd (upd (upd H1 dx (exd dx [(f1, v1)])) a (exo a C (some dx))) dx (exd dx ((f2, v2) :: [(f1, v1)]))) b = some o := fun b o hb h => by
          have hbd : b ≠ dx := fun z => by rw [z, hdx] at h; cases h
          rw [upd_ne hbd, upd_ne hb, upd_ne hbd]
          exact ex.keep b o h (by simp)
        refine q _ dx [v2, v1] hdx hne ?_ upd_same rfl ?_ keep
        · rw [upd_ne (fun z => hne z.symm), upd_same]
        · have ev1 : Ev H B (upd (upd (upd H1 dx (exd dx [(f1, v1)])) a (exo a C (some dx))) dx (exd dx ((f2, v2) :: [(f1, v1)]))) (fun b => B b ∨ b = dx) := ⟨fun b o h n => keep b o (fun z => n (by rw [z]; exact hBa)) h, fun b o h n z => z.elim n fun q => by rw [q, hdx] at h; cases h⟩
          exact Reps.cons (Rep.mono ev1 _ _ r3) (Reps.cons (Rep.mono ev1 _ _ r1) Reps.nil)
    · cases hf
  · cases hf
end
end Mi

namespace Mi
open PySem PySem.Spec PyProof.Rows L2
/-! ### f-strings -/
section
variable {X : Cx} {g : G} {e : Expr} {es : List Expr} {me : ME}
/-- {x} -/
def fmtO (x : W) (S : List C) : R W := match vw x S with
  | some (.str y) => .ok (.d (.str y)) S
  | some (.int i) => if i.natAbs.log2 < 1920 ∧ (toString i : Str).length ≤ sizeLine then .ok (.d (.str (toString i))) S else .bad
  | _ => .bad
def mFmt (a : ME) : ME := mUn fmtO a
theorem d_fmt {pos : Pos} (he : DE X g e me) : DE X g (.FormattedValue e (-1) none pos) (mFmt me) := PEw (pe_fmt he) fun σ H Q ⟨ρ, S, w, l, sl, h⟩ => ⟨ρ, S, w, l, sl, Run.bnd h fun ρ1 S1 x v H1 e1 l1 r1 h1 => by
  unfold fmtO at h1
  cases ev : vw x S1 with
  | none => rw [ev] at h1; exact h1.elim
  | some d =>
    have rv := vw_ok l1 r1 ev
    cases d with
    | str y =>
      simp only [ev] at h1
      obtain ⟨q1, q2⟩ := RepR.str_inv rv
      exact .inl ⟨y, q1, q2, Run.ok_ (rep := rW g) l1 (show RepW g.K H1 g.F ρ1 (.d (.str y)) _ from Rep.str (K := g.K) (H := H1) (B := bar g.F ρ1) q2) h1⟩
    | int i =>
      simp only [ev] at h1
      split at h1
      · rename_i hz
        exact .inr ⟨i, RepR.int_inv rv, hz.1, Run.ok_ (rep := rW g) l1 (show RepW g.K H1 g.F ρ1 (.d (.str (toString i))) _ from Rep.str (K := g.K) (H := H1) (B := bar g.F ρ1) hz.2) h1⟩
      · exact h1.elim
    | _ => simp only [ev] at h1; exact h1.elim⟩
def joinD : List ME → Str → Lw → List C → R Str
  | [], acc, _, S => .ok acc S
  | m :: ms, acc, w, S => (m w S).bind fun x S1 => match x with
    | .d (.str y) => if (acc ++ y).length ≤ sizeLine then joinD ms (acc ++ y) w S1 else .bad
    | _ => .bad
def mJoined (ms : List ME) : ME := fun w S => (joinD ms Str.empty w S).bind fun out S1 => .ok (.d (.str out)) S1
inductive DJ (X : Cx) (g : G) : List Expr → List ME → Prop where
  | nil : DJ X g [] []
  | cons {e : Expr} {m : ME} {es : List Expr} {ms : List ME} (h : DE X g e m) (r : DJ X g es ms) : DJ X g (e :: es) (m :: ms)
theorem DJ.pj {es : List Expr} {ms : List ME} (h : DJ X g es ms) : PJ X es (ms.map (LE g)) := by
  induction h with
  | nil => exact .nil
  | cons h _ ih => exact .cons h ih
theorem js_le : ∀ (ms : List ME) (acc : Str) (ρ : List (Option Addr)) (S : List C) (w : Lw) (σ : L2.St) (H : Hp) (Q : Str → Hp → Prop), Rl g.K g.F ρ S H → Slots g.K H g.F ρ w σ → acc.length ≤ sizeLine →
    Run g (fun _ _ (x v : Str) => x = v ∧ x.length ≤ sizeLine) (joinD ms acc w S) ρ σ H Q → tJs (ms.map (LE g)) acc σ H Q
  | [], acc, ρ, S, w, σ, H, Q, l, sl, hz, h => h ρ H acc (Ext.refl _ _) l ⟨rfl, hz⟩
  | m :: ms, acc, ρ, S, w, σ, H, Q, l, sl, hz, h => ⟨ρ, S, w, l, sl, Run.bnd h fun ρ1 S1 x v H1 e1 l1 r1 h1 => by
    cases x with
    | l n => exact h1.elim
    | d d =>
      cases d with
      | str y =>
        have r1 : Rep g.K H1 (bar g.F ρ1) (.str y) v := r1
        obtain ⟨q1, q2⟩ := RepR.str_inv (RepR.of r1)
        dsimp only at h1
        split at h1
        · rename_i hy
          exact ⟨y, q1, hy, js_le ms (acc ++ y) ρ1 S1 w σ H1 Q l1 (sl.mono e1) hy h1⟩
        · exact h1.elim
      | _ => exact h1.elim⟩
theorem d_joined {v1 v2 : Expr} {rest : List Expr} {ms : List ME} {pos : Pos} (h : DJ X g (v1 :: v2 :: rest) ms) : DE X g (.JoinedStr (v1 :: v2 :: rest) pos) (mJoined ms) :=
  PEw (pe_joined h.pj) fun σ H Q ⟨ρ, S, w, l, sl, hh⟩ => js_le ms Str.empty ρ S w σ H _ l sl (Nat.zero_le _) (Run.bnd hh fun ρ1 S1 out v H1 e1 l1 r1 h1 => by
    obtain ⟨rfl, hz⟩ := r1
    exact Run.ok_ (rep := rW g) l1 (show RepW g.K H1 g.F ρ1 (.d (.str out)) _ from Rep.str (K := g.K) (H := H1) (B := bar g.F ρ1) hz) h1)
theorem d_joined1 {pos : Pos} (h : DE X g e me) : DE X g (.JoinedStr [e] pos) me := PEw (pe_joined1 h) fun _ _ _ h => h
end
section
variable {X : Cx} {e : Expr} {es : List Expr} {ta : TA} {p pos : Pos}
theorem pmk_oexN {CX : CXT} {x : Str} {C fI : Addr} {k : Nat} {fd : FuncData} {ps : List Str} {sp : Sp} {ds : List Value} {dvs : List V} (T : OexC X.K C) (iC : PySem.W.findIn X.K (.ref C) "__init__" = some (some (.ref fI))) (tI : PySem.W.typeIn X.K (.ref fI) = some (.type "function"))
    (F1 : FnOk X.prog X.w X.K X.mg X.base CX k fI fd ps sp) (hr : Room (k + 1) X.A) (hb : Binds X.K fd ps ds) (hd : Vals dvs ds) (hx : Passes CX X (fun _ _ _ => False)) (hg : Gl X x) (hm : X.mg x = some (.ref C)) (ha : PA X (e :: es) ta)
    (hdb : (x == ("__debug__" : Str)) = false := by decide) (he : starEach (e :: es) X.env = (false, eval e X.env) :: starEach es X.env := by rfl) (hpl : (backTo pos (starEach es X.env)).any (·.1) = false := by rfl) :
    L2N.PMk X (.Call (.Name x p) (e :: es) [] pos) (tMkO C sp dvs ta) := by
  intro pins s σ H Q I h
  obtain ⟨nm, q, N, bs, bm, sn, sub, ab, col, dd, k0, k1, k2, k3, k5, hC, hbm⟩ := T.cls
  refine wpAny_Call_Name_kw (ld_glob I hg hm ?_ hdb)
  refine PySem.W.callWith_K (h₀ := X.base) I.ok.mod.kin T.kC (thn (ha.run pos pins s σ H _ I h) fun us s1 ⟨vs, H1, I1, r1, hz, q1⟩ => ⟨I1.kIn, ?_⟩) he hpl
  show wpAny _ _ (call (.ref C) us) _ _ _
  obtain ⟨hp, g, dr, tk, os⟩ := s1
  have hsz : hp.objs.size ≤ hp.objs.size + 1 := Nat.le_succ _
  have hn : H1 (hp.objs.size + 1) = none := I1.hok.fresh hsz
  have hq := q1 (hp.objs.size + 1) hn
  have kk : ∀ b o, hp.get? b = some o → ((hp.push (PySem.W.kdv_tup us)).push (PySem.HandSPX.excO C hp.objs.size)).get? b = some o := fun b o e => Heap.get?_push_of_some _ (Heap.get?_push_of_some _ e)
  have hget : ((hp.push (PySem.W.kdv_tup us)).push (PySem.HandSPX.excO C hp.objs.size)).get? (hp.objs.size + 1) = some (PySem.HandSPX.excO C hp.objs.size) := by heap_get
  have I2 : Inv X pins σ (upd H1 (hp.objs.size + 1) (exo (hp.objs.size + 1) C none)) ⟨(hp.push (PySem.W.kdv_tup us)).push (PySem.HandSPX.excO C hp.objs.size), g, dr, tk, os⟩ :=
    I1.laid (t' := tk) (a := hp.objs.size + 1) (o := exo (hp.objs.size + 1) C none) (h' := (hp.push (PySem.W.kdv_tup us)).push (PySem.HandSPX.excO C hp.objs.size)) kk hsz (exo_ok hget)
  have r2 : Vals (V.ref (hp.objs.size + 1) :: (vs ++ dvs)) (Value.ref (hp.objs.size + 1) :: (us ++ ds)) := .cons rfl (r1.append hd)
  have hl : (Value.ref (hp.objs.size + 1) :: us ++ ds).length = ps.length := by
    have e := r2.length
    rw [F1.len _ _ _ _ hq] at e
    exact e.symm
  have hus : us.length ≤ sizeLine := by
    rw [← Paired.length r1, sizeLine_eq]
    omega
  refine wpAny_call (PySem.HandSPX.call_own F.excBase_ValueError (fun Y => PySem.HandSPX.refsVE_contains Y bm hbm) (I1.kIn _ _ hC) (PySem.W.looks_findIn I1.kIn iC) (fun self => PySem.W.bind_fn I1.kIn self tI) hus
    (codeAny_mono (F1.run _ X.stack _ _ ⟨Value.ref (hp.objs.size + 1) :: us, []⟩ (Value.ref (hp.objs.size + 1) :: (us ++ ds)) _ _ (fun _ _ _ => False) (hr.make C us []) (I2.env0.make C us []) (hb _ (Value.ref (hp.objs.size + 1) :: us) I2.kIn hl) r2 hq) fun r s' hq' => ?_))
  cases r with
  | error er => exact hx pins σ _ _ er s' I2 hq'
  | ok fl =>
    cases fl with
    | ret u =>
      obtain ⟨v, H2, os2, bare2, un2, hok2, rv, ev, d, fs, ea, ed, hd1, q2⟩ := hq'
      subst ev
      obtain ⟨h2, g2, d2, t2, os'⟩ := s'
      obtain ⟨t0, G, J, kG, ge, hoe, na⟩ := mk_end0 (d2 := d2) (t2 := t2) I1 hsz kk un2 hok2 os2 bare2 ea ed hd1
      exact ⟨rv, _, _, _, ⟨G, g2, d2, t2, os'⟩, _, .ref C, some d, rfl, J, kG, ge, hoe, ⟨rfl, rfl, fun vs e => by cases e; rfl⟩, rfl, rfl, na, rfl, bare2, raises_own T.exC T.tyC, q2⟩
    | next => exact False.elim hq'
    | brk => exact False.elim hq'
    | cont => exact False.elim hq'
end
/-! ### raise -/
/-- what the text says of an exception class: C, its __init__ -/
def CE (P : Program) (w : World) (K : PySem.W.Frag) (mg : Str → Option Value) (base : Heap) (k : Nat) (x : Str) (f : List D → Option (List Str × List D)) : Prop :=
  ∃ (C fI : Addr) (fd : FuncData) (ps : List Str), mg x = some (.ref C) ∧ OexC K C ∧ PySem.W.findIn K (.ref C) "__init__" = some (some (.ref fI)) ∧ PySem.W.typeIn K (.ref fI) = some (.type "function") ∧ Binds K fd ps [] ∧ FnOk P w K mg base (L2N.CX P w) k fI fd ps (spI K C f)
def sRaise (x : Str) (f : List D → Option (List Str × List D)) (m : MA) : MS := fun w S => (m w S).stm w fun xs S1 => match pures xs with
  | some ds => if ds.length ≤ 1000 then (match f ds with
    | some (ks, vs) => .exc ⟨x, ks, vs⟩ w S1
    | none => .bad) else .bad
  | none => .bad
section
variable {X : Cx} {g : G} {e : Expr} {es : List Expr} {m : MA} {k : Nat} {x : Str} {f : List D → Option (List Str × List D)} {p pos pos' : Pos}
theorem no_pass : Passes (L2N.CX X.prog X.w) X (fun _ _ _ => False) := fun _ _ _ _ _ _ _ c => by
  obtain ⟨_, _, _, _, _, _, _, _, _, _, _, _, h⟩ := c
  exact h.elim
theorem s_raise (c : CE X.prog X.w X.K X.mg X.base k x f) (hr : Room (k + 1) X.A) (tk : L2N.Takes X g.Wx) (ha : DA X g (e :: es) m) (hc : X.calm = true := by rfl) (hg : Gl X x := by rfl) (hK : g.K = X.K := by rfl) (hM : g.mg = X.mg := by rfl)
    (hdb : (x == ("__debug__" : Str)) = false := by decide) (he : starEach (e :: es) X.env = (false, eval e X.env) :: starEach es X.env := by rfl) (hpl : (backTo pos (starEach es X.env)).any (·.1) = false := by rfl) :
    DS X g (.Raise (some (.Call (.Name x p) (e :: es) [] pos)) none pos') (sRaise x f m) := by
  obtain ⟨C, fI, fd, ps, hm, T, iC, tI, hb, Fo⟩ := c
  refine PSw (L2N.ps_raise hc tk (pmk_oexN T iC tI Fo hr hb .nil no_pass hg hm ha hdb he hpl)) fun D σ H ⟨ρ, S, w, l, sl, h⟩ => ?_
  refine ⟨ρ, S, w, l, sl, RunO.bnd sl h fun ρ1 S1 xs vs H1 e1 l1 r1 h1 => ?_⟩
  cases ep : pures xs with
  | none => rw [ep] at h1; exact h1.elim
  | some ds =>
    simp only [ep] at h1
    split at h1
    · rename_i hl
      cases ef : f ds with
      | none => rw [ef] at h1; exact h1.elim
      | some kv =>
        obtain ⟨ks, ys⟩ := kv
        rw [ef] at h1
        have rd := pures_ok ep r1
        rw [hK] at rd
        refine ⟨by rw [rd.length]; exact hl, fun a ha => ?_⟩
        have nb : ¬ bar g.F ρ1 a := new_nb l1 ha
        refine ⟨a, fun b => bar g.F ρ1 b ∨ b = a, ds, vs, by rw [List.append_nil], upd_same, .inr rfl, fun b z => ?_, ?_, ks, ys, ef, fun H2 d ws hd hne ha2 hd2 hlw rw2 keep => ⟨rfl, d, _, ha2, hd2, ?_, ?_⟩⟩
        · rcases z with z | z
          · rw [upd_ne (fun q => nb (by rw [← q]; exact z))]; exact bar_dom l1 b z
          · rw [z, upd_same]; exact fun q => nomatch q
        · refine Reps.mono ⟨fun b o h n => ?_, fun b o h n => ?_⟩ _ _ rd
          · rw [upd_ne (ne_of_none h ha)]; exact h
          · exact fun z => z.elim n (ne_of_none h ha)
        · rw [upd_ne hne] at hd; exact hd
        · have hd1 : H1 d = none := by rw [upd_ne hne] at hd; exact hd
          have keep' : ∀ b o, H1 b = some o → (upd (del H2 a) d (.xd (ks.zip ws))) b = some o := fun b o h => by
            have hba := ne_of_none h ha
            have hbd := ne_of_none h hd1
            rw [upd_ne hbd, del_ne hba]
            exact keep b o hba (by rw [upd_ne hba]; exact h)
          have ex : Ext ρ1 H1 ρ1 (upd (del H2 a) d (.xd (ks.zip ws))) := ⟨fun b o h _ => keep' b o h, Nat.le_refl _, fun _ _ _ h => h, fun _ h => .inl h⟩
          have l2 : Rl g.K g.F ρ1 S1 (upd (del H2 a) d (.xd (ks.zip ws))) := by
            refine ⟨l1.len, fun n b eb => ?_, l1.live, l1.inj, fun b z => ?_, l1.sep⟩
            · obtain ⟨c, q1, q2⟩ := l1.cell n b eb
              exact ⟨c, q1, q2.mono (ex.ev g.F) fun o q => keep' b o q⟩
            · cases hb : H1 b with
              | none => exact absurd hb (l1.dom b z)
              | some o => rw [keep' b o hb]; exact fun q => nomatch q
          refine h1 ρ1 _ σ (.ref C) (some d) ex l2 ((sl.mono e1).mono ex) ⟨C, hM ▸ hm, rfl, ?_⟩
          refine ⟨fun z => new_nb l1 hd1 z, ws, hlw, upd_same, ?_⟩
          rw [hK]
          refine Reps.mono ⟨fun b o h n => ?_, fun b o h n => fun z => n (.inl (.inl z))⟩ _ _ rw2
          rw [upd_ne (fun z => n (.inr z)), del_ne (fun z => n (.inl (.inr z)))]
          exact h
    · exact h1.elim
end
end Mi

namespace Mi
open PySem PySem.Spec PyProof.Rows L2
/-! ### an except suite: x the exception, at a, in slot i -/
def LftX {α β : Type} (g : G) (i : Nat) (a : Addr) (cls : Value) (dd : Option Addr) (rep : Hp → List (Option Addr) → α → β → Prop) (m : Ex → Lw → List C → R α) (σ : L2.St) (H : Hp) (Q : β → Hp → Prop) : Prop :=
  ∃ x ρ S w, Rl g.K g.F ρ S H ∧ Slots g.K H g.F ρ w σ ∧ RepX g.K g.mg H (bar g.F ρ) x cls dd ∧ σ[i]? = some (some (.ref a)) ∧ Run g rep (m x w S) ρ σ H Q
abbrev LEX (g : G) (i : Nat) (a : Addr) (cls : Value) (dd : Option Addr) (m : Ex → ME) : TE := LftX g i a cls dd (rW g) m
abbrev LAX (g : G) (i : Nat) (a : Addr) (cls : Value) (dd : Option Addr) (m : Ex → MA) : TA := LftX g i a cls dd (rA g) m
/-- the fields of cn's instances can be read -/
def FldC (K : PySem.W.Frag) (mg : Str → Option Value) (cn f : Str) : Prop := ∃ C, mg cn = some (.ref C) ∧ PySem.W.findIn K (.ref C) "__getattribute__" = some (some (.builtin "BaseException.__getattribute__")) ∧ PySem.W.findIn K (.ref C) "__getattr__" = some none ∧
  PySem.W.subIn K (.ref C) (.type "BaseException") = some true ∧ PySem.W.hasDictIn K C = true ∧ PySem.W.findIn K (.ref C) f = some none
def fldX (cn f : Str) : Ex → ME := fun x _ S => if x.cls = cn then (match (x.ks.zip x.vs).lookup f with
  | some d => .ok (.d d) S
  | none => .bad) else .bad
theorem zip_rep {K : PySem.W.Frag} {H : Hp} {B : Addr → Prop} {f : Str} {d : D} : ∀ {ks : List Str} {ds : List D} {us : List V}, Reps K H B ds us → (ks.zip ds).lookup f = some d → ∃ v, (ks.zip us).lookup f = some v ∧ Rep K H B d v
  | [], _, _, _, h => by simp at h
  | k :: ks, [], _, _, h => by simp at h
  | k :: ks, e :: ds, us, r, h => by
    obtain ⟨v, q, rfl, r1, r2⟩ := r.cons_inv
    rw [List.zip_cons_cons, List.lookup_cons] at h ⊢
    cases c : f == k with
    | true => rw [c] at h; cases h; exact ⟨v, rfl, r1⟩
    | false => rw [c] at h; exact zip_rep r2 h
section
variable {X : Cx} {g : G} {i : Nat} {a : Addr} {oe : Obj} {cls : Value} {dd : Option Addr} {pn : List (Addr × Obj)} {e : Expr} {es : List Expr} {me : Ex → ME} {m : Ex → MA}
theorem ex_of {mb : ME} (h : DE X g e mb) : PE X e (LEX g i a cls dd fun _ => mb) := PEw h fun σ H Q ⟨x, ρ, S, w, l, sl, _, _, h⟩ => ⟨ρ, S, w, l, sl, h⟩
theorem ex_fld {cn f y : Str} {p pos : Pos} (T : FldC X.K X.mg cn f) (hz : L2N.Zn cls dd oe) (hf : ∃ vs, oe.data = .fields vs) (hN : X.N[i]? = some y) (hv : Vis X.env.scope y)
    (hK : g.K = X.K := by rfl) (hM : g.mg = X.mg := by rfl) (hd1 : (y == ("__debug__" : Str)) = false := by decide) (hd2 : (y == ("__classdict__" : Str)) = false := by decide)
    (hb : attributeBase (.Name y p) f X.env (eval (.Name y p) X.env) = eval (.Name y p) X.env := by rfl) :
    PE (X.suite a ((a, oe) :: pn)) (.Attribute (.Name y p) f pos) (LEX g i a cls dd (fldX cn f)) := by
  refine ⟨fun pins s σ H Q I h => ?_⟩
  obtain ⟨x, ρ, S, w, l, sl, rx, si, h⟩ := h
  obtain ⟨C, gC, ga, gg, exC, hdC, noN⟩ := T
  unfold fldX at h
  split at h
  · rename_i hcn
    cases hl : (x.ks.zip x.vs).lookup f with
    | none => rw [hl] at h; exact h.elim
    | some d =>
      rw [hl] at h
      obtain ⟨C', hm', hcl, hr⟩ := rx
      have eC : C' = C := by
        rw [hcn, hM, gC] at hm'
        cases hm'; rfl
      subst eC
      cases dd with
      | none =>
        obtain ⟨e1, e2⟩ := hr
        rw [e1] at hl
        simp at hl
      | some da =>
        obtain ⟨nb, us, hlen, hd, rus⟩ := hr
        obtain ⟨v, hv', rv⟩ := zip_rep rus hl
        refine attr_of hb (thn ((pe_var (X := X.suite a ((a, oe) :: pn)) hN hv hd1 hd2).run pins s σ H (fun x H1 => x = .ref a ∧ H1 = H) I ⟨.ref a, si, rfl, rfl⟩) fun u s1 hh => ?_)
        obtain ⟨x1, H1, I1, rx1, ex, eH⟩ := hh
        subst ex eH
        obtain rfl : u = Value.ref a := rx1
        subst hcl
        obtain ⟨ha, _⟩ := I1.pin (a, oe) (List.mem_append_left _ List.mem_cons_self)
        obtain ⟨vs, hdt⟩ := hf
        have hx : ObjOk X.prog X.w H1 s1.heap da (.xd (x.ks.zip us)) := I1.hok da _ hd
        obtain ⟨mA, hns, hr⟩ := hx
        obtain ⟨od, ho, hlk⟩ := lookIn_ns hns
        obtain ⟨u, hu, ru⟩ := RelO.some_of (v := v) (o := mA f) (by rw [← hv']; exact hr f)
        have J : PySem.W.InstAt s1.heap a oe C' (some od) := ⟨ha, hz.1, by unfold PySem.W.notCls; rw [hdt] <;> rfl, by rw [hz.2.1]; exact ho⟩
        exact HandSPX.exc_get I1.kIn J ga gg exC (PySem.W.findObj_own hdC noN rfl (by rw [hlk, hu])) (handed_of ru) ⟨v, H1, I1.tok _, ru, Run.ok_ (rep := rW g) l (show RepW g.K H1 g.F ρ (.d d) v from rv) h⟩
  · exact h.elim
end
end Mi

namespace Mi
open PySem PySem.Spec PyProof.Rows L2
/-! ### except suites: arguments, calls, displays, return -/
section
variable {X : Cx} {g : G} {i : Nat} {a : Addr} {cls : Value} {dd : Option Addr} {e : Expr} {es : List Expr} {me : Ex → ME} {m : Ex → MA} {pos p : Pos}
theorem exa_nil : PA X [] (LAX g i a cls dd fun _ => mNil) := PAw a_nil fun σ H Q ⟨x, ρ, S, w, l, sl, _, _, h⟩ => ⟨ρ, S, w, l, sl, h⟩
theorem exa_cons (ha : PE X e (LEX g i a cls dd me)) (hr : PA X es (LAX g i a cls dd m)) (hs : starEach (e :: es) X.env = (false, eval e X.env) :: starEach es X.env := by rfl) : PA X (e :: es) (LAX g i a cls dd fun x => mCons (me x) (m x)) := by
  refine PAw (pa_cons ha hr hs) fun σ H Q ⟨x, ρ, S, w, l, sl, rx, si, h⟩ => ?_
  refine ⟨x, ρ, S, w, l, sl, rx, si, Run.bnd h fun ρ1 S1 y v H1 e1 l1 r1 h1 => ?_⟩
  refine ⟨x, ρ1, S1, w, l1, sl.mono e1, rx.mono (e1.ev g.F), si, Run.bnd h1 fun ρ2 S2 xs vs H2 e2 l2 r2 h2 => ?_⟩
  exact Run.ok_ l2 (show RepWs g.K H2 g.F ρ2 (y :: xs) (v :: vs) from ⟨v, vs, rfl, r1.mono e2, r2⟩) h2
theorem lx_fnA {f : List W → List C → R W} {r : List V → Hp → VK → Prop} {σ : L2.St} {H : Hp} {Q : VK} (hf : ∀ ρ S xs vs σ H Q, Rl g.K g.F ρ S H → RepWs g.K H g.F ρ xs vs → Run g (rW g) (f xs S) ρ σ H Q → r vs H Q)
    (h : LEX g i a cls dd (fun x => mFnA f (m x)) σ H Q) : LAX g i a cls dd m σ H fun vs H1 => r vs H1 Q := by
  obtain ⟨x, ρ, S, w, l, sl, rx, si, h⟩ := h
  exact ⟨x, ρ, S, w, l, sl, rx, si, Run.bnd h fun ρ1 S1 xs vs H1 e1 l1 r1 h1 => hf ρ1 S1 xs vs σ H1 Q l1 r1 h1⟩
theorem ex_lst (h : PA X es (LAX g i a cls dd m)) : PE X (.List es pos) (LEX g i a cls dd fun x => mLst (m x)) := by
  refine PEw (pe_lst h) fun σ H Q => lx_fnA (r := fun xs H1 Q => xs.length ≤ sizeLine ∧ ∀ p, H1 p = none → Q (.ref p) (upd H1 p (.lst xs))) fun ρ S xs vs σ H Q l r h => ?_
  unfold lstO at h
  cases e : pures xs with
  | none => rw [e] at h; exact h.elim
  | some ds =>
    simp only [e] at h
    split at h
    · rename_i hz
      have r' := pures_ok e r
      exact ⟨by rw [r'.length]; exact hz, new_lst l r' h⟩
    · exact h.elim
theorem ex_tup {x1} (h : PA X es (LAX g i a cls dd m)) : PE X (.Tuple es x1 pos) (LEX g i a cls dd fun x => mTup (m x)) := by
  refine PEw (pe_tup h) fun σ H Q => lx_fnA (r := fun xs H1 Q => xs.length ≤ sizeLine ∧ ∀ p, H1 p = none → Q (.ref p) (upd H1 p (.tup xs))) fun ρ S xs vs σ H Q l r h => ?_
  unfold tupO at h
  cases e : pures xs with
  | none => rw [e] at h; exact h.elim
  | some ds =>
    simp only [e] at h
    split at h
    · rename_i hz
      have r' := pures_ok e r
      exact ⟨by rw [r'.length]; exact hz, new_tup l r' h⟩
    · exact h.elim
theorem ex_cp {k : Nat} {x : Str} {F : List D → RP} (c : CP X.prog X.w X.K X.mg X.base k x F) (hr : Room k X.A) (tk : L2N.Takes X g.Wx) (ha : PA X (e :: es) (LAX g i a cls dd m)) (hg : Gl X x := by rfl) (hK : g.K = X.K := by rfl) (hM : g.mg = X.mg := by rfl)
    (hdb : (x == ("__debug__" : Str)) = false := by decide) (he : starEach (e :: es) X.env = (false, eval e X.env) :: starEach es X.env := by rfl) (hpl : (backTo pos (starEach es X.env)).any (·.1) = false := by rfl) :
    PE X (.Call (.Name x p) (e :: es) [] pos) (LEX g i a cls dd fun y => mCallP F (m y)) := by
  obtain ⟨_, _, _, hm, hk, hb, Fo⟩ := c
  refine PEw (pe_callS Fo hr hg hm hk hb (fun σ => L2N.passAt tk σ) ha hdb he hpl) fun σ H Q ⟨x, ρ, S, w, l, sl, rx, si, h⟩ => ?_
  refine ⟨x, ρ, S, w, l, sl, rx, si, Run.bnd h fun ρ1 S1 xs vs H1 e1 l1 r1 h1 => ?_⟩
  cases ep : pures xs with
  | none => rw [ep] at h1; exact h1.elim
  | some ds =>
    simp only [ep] at h1
    have rd := pures_ok ep r1
    rw [hK] at rd
    refine ⟨bar g.F ρ1, ds, bar_dom l1, rd, ?_⟩
    cases eF : F ds with
    | bad => rw [eF] at h1; exact h1
    | ok d =>
      rw [eF] at h1
      intro H2 v sm rv
      rw [← hK] at rv
      exact h1 ρ1 H2 v (ext_same sm) (rl_same l1 sm) rv
    | exc z =>
      rw [eF] at h1
      intro H2 cls dd sm rv
      rw [← hK, ← hM] at rv
      exact h1 ρ1 H2 cls dd (ext_same sm) (rl_same l1 sm) rv
abbrev LSX (g : G) (i : Nat) (a : Addr) (cls : Value) (dd : Option Addr) (m : Ex → MS) : TS := fun D σ H => ∃ x ρ S w, Rl g.K g.F ρ S H ∧ Slots g.K H g.F ρ w σ ∧ RepX g.K g.mg H (bar g.F ρ) x cls dd ∧ σ[i]? = some (some (.ref a)) ∧ RunO g (m x w S) D ρ σ H
theorem sx_ret (he : PE X e (LEX g i a cls dd me)) : PSs X [.Return (some e) pos] (LSX g i a cls dd fun x => sRet (me x)) := PSsw (pss_one (ps_ret he)) fun D σ H ⟨x, ρ, S, w, l, sl, rx, si, h⟩ => by
  exact ⟨x, ρ, S, w, l, sl, rx, si, RunO.bnd sl h fun ρ1 S1 a v H1 e1 l1 r1 h1 => h1 ρ1 H1 v (Ext.refl _ _) l1 r1⟩
theorem sx_of {st : List Stmt} {ms : MS} (h : DSs X g st ms) : PSs X st (LSX g i a cls dd fun _ => ms) := PSsw h fun D σ H ⟨x, ρ, S, w, l, sl, rx, si, h⟩ => ⟨ρ, S, w, l, sl, h⟩
end
/-! ### try: several clauses, with a name or without -/
def wGen (K : PySem.W.Frag) (Wout : WX) (D : Ends) : List (Value × Option Nat × (Addr → Value → Option Addr → TS)) → WX
  | [] => Wout
  | (c, none, ts) :: r => fun cls d σ H => ∃ b, PySem.W.exmOne K cls c = some b ∧ (b = true → ∀ a, H a = none → ts a cls d D σ H) ∧ (b = false → wGen K Wout D r cls d σ H)
  | (c, some i, ts) :: r => fun cls d σ H => ∃ b, PySem.W.exmOne K cls c = some b ∧ (b = true → ∀ a, H a = none → ts a cls d { nx := fun σ' H' => D.nx (σ'.set i none) H', rt := D.rt, bk := fun σ' H' => D.bk (σ'.set i none) H', ct := fun σ' H' => D.ct (σ'.set i none) H' } (σ.set i (some (.ref a))) H) ∧
      (b = false → wGen K Wout D r cls d σ H)
inductive HdG (X : Cx) : List ExceptHandler → List (Value × Option Nat × (Addr → Value → Option Addr → TS)) → Prop
  | nil : HdG X [] []
  | one {x : Str} {c : Value} {ts : Addr → Value → Option Addr → TS} {b₀ : Stmt} {suite : List Stmt} {np pos' : Pos} {hds : List ExceptHandler} {l : List (Value × Option Nat × (Addr → Value → Option Addr → TS))} (hc : Names X x c)
      (hsu : ∀ (a : Addr) (oe : Obj) (cls : Value) (d : Option Addr) (pn : List (Addr × Obj)), L2N.Zn cls d oe → (∃ vs, oe.data = .fields vs) → PSs (X.suite a ((a, oe) :: pn)) (b₀ :: suite) (ts a cls d)) (r : HdG X hds l) :
      HdG X (.ExceptHandler (some (.Name x np)) none (b₀ :: suite) pos' :: hds) ((c, none, ts) :: l)
  | as {x n : Str} {i : Nat} {c : Value} {ts : Addr → Value → Option Addr → TS} {b₀ : Stmt} {suite : List Stmt} {np pos' : Pos} {hds : List ExceptHandler} {l : List (Value × Option Nat × (Addr → Value → Option Addr → TS))} (hc : Names X x c) (hN : X.N.Nodup) (hi : X.N[i]? = some n) (hln : X.env.kindOf n = some .local)
      (hsu : ∀ (a : Addr) (oe : Obj) (cls : Value) (d : Option Addr) (pn : List (Addr × Obj)), L2N.Zn cls d oe → (∃ vs, oe.data = .fields vs) → PSs (X.suite a ((a, oe) :: pn)) (b₀ :: suite) (ts a cls d)) (r : HdG X hds l) :
      HdG X (.ExceptHandler (some (.Name x np)) (some n) (b₀ :: suite) pos' :: hds) ((c, some i, ts) :: l)
section
variable {X : Cx} {body : List Stmt} {h₀ : ExceptHandler} {hds : List ExceptHandler} {l : List (Value × Option Nat × (Addr → Value → Option Addr → TS))} {pos : Pos} {tb : WX → TS} {Wout : WX}
theorem ps_try_gen (hs : X.stack = X.env :: X.outer) (hf : X.env.frame = some X.env.locals) (tk : L2N.Takes X Wout)
    (hb : ∀ (W : WX) (pn : List (Addr × Obj)) (xe : Value → Shared → Prop), L2N.Takes (X.tr pn xe) W → PassesOwn (model X.prog X.w) X.A X.env xe → PSs (X.tr pn xe) body (tb W))
    (hh : HdG X (h₀ :: hds) l) : PS X (.Try body (h₀ :: hds) [] [] pos) (fun D σ H => tb (wGen X.K Wout D l) D σ H) := by
  refine ⟨fun pins s σ H D I h => ?_⟩
  have ok := I.ok
  have hfr : X.A.frames = some (X.env :: X.outer) := by rw [ok.frames, hs]
  refine wpAny_Try_except ?_
  refine wpAny_mono ((hb (wGen X.K Wout D l) (X.pn ++ pins) (fun e s₁ => wpAny (model X.prog X.w) X.A (noteFrame e X.env) (fun _ s₂ => wpAny (model X.prog X.w) X.A (setFlight e none) (fun _ s₃ =>
    wpAny (model X.prog X.w) X.A (handleBy e X.env (h₀ :: hds)) (SP X pins D) X.xe s₃) X.xe s₂) X.xe s₁) (fun u s' xx => ?_) PassesOwn.looking).run [] s σ H D (I.toTry _) h) (fun f s1 hsp => ?_) (fun e s1 he => he)
  · obtain ⟨a, B, sI, pins', σ', H', cls, d, rfl, J', nb, up, sky, na, os, ag, w⟩ := xx
    have J : Inv X pins σ' H' sI := J'.ofTry ok
    have sky' : Sky B (X.env :: X.outer) a (L2N.Zn cls d) X.env.locals s'.heap := by rw [← hs]; exact sky
    show wpAny (model X.prog X.w) X.A (noteFrame (.ref a) X.env) _ _ _
    refine L2N.Sky.land L2N.Zn.steady hfr hf sky' fun h3 fl3 up3 => ?_
    have J3 : Inv X pins σ' H' { s' with heap := h3 } := J.landed nb fl3.1 (up.trans up3) os ag
    obtain ⟨oe3, vs3, he3, hz3, hd3⟩ := fl3.there
    have notFr : ∀ {h : Heap} {o : Obj} {vs : Array Value}, h.FunFrames B (X.env :: X.outer) → h.get? a = some o → o.data = .fields vs → a ∉ frs (X.env :: X.outer) := fun {h o vs} ff e dd hm => by
      obtain ⟨_, o', e', hnf⟩ := ff.mem hm
      rw [e] at e'; cases e'
      exact hnf _ dd
    have nfr := notFr fl3.2.2.1 he3 hd3
    have nL : a ≠ X.env.locals := fun z => nfr (List.mem_filterMap.mpr ⟨X.env, List.mem_cons_self, by rw [hf, z]⟩)
    have nF : a ∉ X.fs := fun hm => by
      obtain ⟨e, he, q⟩ := List.mem_filterMap.mp hm
      exact nfr (List.mem_filterMap.mpr ⟨e, List.mem_cons_of_mem _ he, q⟩)
    have S3 := J3.suite he3 hd3 na nL nF
    have LT : PySem.W.Looks (model X.prog X.w) h3 (typeOf (.ref a)) cls := fun A Q E s k q => wpAny_typeOf_ref (k _ _ he3) (by rw [hz3.1]; exact q)
    have test : ∀ {x : Str} {c : Value} {np : Pos} {Q : Value → Shared → Prop} {E : Value → Shared → Prop}, Names X x c → Q c { s' with heap := h3 } → wpAny (model X.prog X.w) (X.A.mark (some (.ref a))) (eval (.Name x np) X.env) Q E { s' with heap := h3 } := fun {x c np Q E} hc q => by
      obtain ⟨hg, hdbg, hm | ⟨hm, hv, hnn⟩⟩ := hc
      · exact ld_glob (X := X.suite a ((a, oe3) :: (X.pn ++ pins))) S3 hg hm q hdbg
      · exact ld_blt (X := X.suite a ((a, oe3) :: (X.pn ++ pins))) S3 hg hm hv q hnn hdbg
    have go : ∀ {hds' : List ExceptHandler} {l' : List (Value × Option Nat × (Addr → Value → Option Addr → TS))}, HdG X hds' l' → wGen X.K Wout D l' cls d σ' H' →
        wpAny (model X.prog X.w) X.A (handleBy (.ref a) X.env hds') (SP X pins D) X.xe { s' with heap := h3 } := by
      intro hds' l' hk
      induction hk with
      | nil =>
        intro w
        refine wpAny_handleBy_nil ?_
        obtain ⟨k1, k2, k3, oe, vs, T, oT, ts', he, hz, hd, h1, hr⟩ := id fl3
        unfold PySem.passOn
        refine wpAny_bind (wpAny_field he hd h1 ?_)
        rw [if_neg (show ¬ ((Value.ref T == Value.none) = true) from by simp)]
        have fin : wpAny (model X.prog X.w) X.A (setFlight (.ref a) X.env.frame) (fun _ s4 => wpAny (model X.prog X.w) X.A (throw (.ref a) : Sem Flow) (SP X pins D) X.xe s4) X.xe { s' with heap := h3 } := by
          rw [hf]
          refine HandSPX.setFlight_upZ fl3 fun h4 hh4 up4 => wpAny_throw (tk _ _ ?_)
          exact ⟨a, B, sI, pins, σ', H', cls, d, rfl, J, nb, (up.trans up3).trans up4, .inr (.inr (by rw [hs]; exact hh4)), na, os, ag, w⟩
        first
          | exact wpAny_bind (wpAny_pure (wpAny_bind fin))
          | exact wpAny_bind fin
      | @one x c ts b₀ suite np pos' hds2 l2 hc hsu r ih =>
        intro w
        obtain ⟨b, hb1, hyes, hno⟩ := w
        refine wpAny_handleBy_cons (codeAny_handlers_test ?_) (by intro q; cases q)
        refine test hc ((PySem.W.exm_one (M := model X.prog X.w) (J3.kIn) LT hb1).here ?_)
        cases b with
        | true =>
          refine codeAny_handlers_suite ?_
          refine HandSPX.lands_againZ fl3 fun h4 fl4 up4 => ?_
          have J4 : Inv X pins σ' H' { s' with heap := h4 } := J.landed nb fl4.1 ((up.trans up3).trans up4) os ag
          obtain ⟨oe4, vs4, he4, hz4, hd4⟩ := fl4.there
          have S4 := J4.suite he4 hd4 na nL nF
          refine wpAny_mono ((hsu a oe4 cls d (X.pn ++ pins) hz4 ⟨_, hd4⟩).run [] _ _ H' _ S4 (hyes rfl a na)) (fun f s6 hsp => ?_) (fun _ _ z => False.elim z)
          cases f with
          | next =>
            obtain ⟨σ6, H6, S6, q6⟩ := hsp
            exact ⟨_, _, S6.unsuite ok, q6⟩
          | brk =>
            obtain ⟨σ6, H6, S6, q6⟩ := hsp
            exact ⟨_, _, S6.unsuite ok, q6⟩
          | cont =>
            obtain ⟨σ6, H6, S6, q6⟩ := hsp
            exact ⟨_, _, S6.unsuite ok, q6⟩
          | ret u =>
            obtain ⟨v6, σ6, H6, S6, r6, q6⟩ := hsp
            exact ⟨_, _, _, S6.unsuite ok, r6, q6⟩
        | false =>
          show wpAny _ X.A (handleBy (.ref a) X.env hds2) _ _ _
          exact ih (hno rfl)
      | @as x n i c ts b₀ suite np pos' hds2 l2 hc hN hi hln hsu r ih =>
        intro w
        obtain ⟨b, hb1, hyes, hno⟩ := w
        have hloc : Loc X.env.scope n := .inl hln
        refine wpAny_handleBy_cons (codeAny_handlers_test ?_) (by intro q; cases q)
        refine test hc ((PySem.W.exm_one (M := model X.prog X.w) (J3.kIn) LT hb1).here ?_)
        cases b with
        | true =>
          refine codeAny_handlers_suite_as ?_
          refine HandSPX.lands_againZ fl3 fun h4 fl4 up4 => ?_
          have J4 : Inv X pins σ' H' { s' with heap := h4 } := J.landed nb fl4.1 ((up.trans up3).trans up4) os ag
          obtain ⟨oe4, vs4, he4, hz4, hd4⟩ := fl4.there
          have S4 := J4.suite he4 hd4 na nL nF
          refine store_ok (X := X.suite a ((a, oe4) :: (X.pn ++ pins))) (v := .ref a) S4 hN hi hloc rfl (fun s5 S5 => ?_) (.inr hln)
          refine wpAny_mono ((hsu a oe4 cls d (X.pn ++ pins) hz4 ⟨_, hd4⟩).run [] s5 _ H' _ S5 (hyes rfl a na)) (fun f s6 hsp => ?_) (fun _ _ z => False.elim z)
          have end_ : ∀ {σ6 : L2.St} {H6 : Hp} {Q : Shared → Prop}, Inv (X.suite a ((a, oe4) :: (X.pn ++ pins))) [] σ6 H6 s6 → (∀ s7, Inv X pins (σ6.set i none) H6 s7 → Q s7) →
              wpAny (model X.prog X.w) X.A (do bindName X.env n .none; unbindBehindTheSuite X.env n pos') (fun _ s7 => Q s7) X.xe s6 := fun {σ6 H6 Q} S6 hq => gone_ok (S6.unsuite ok) hN hi hln hq
          cases f with
          | next =>
            obtain ⟨σ6, H6, S6, q6⟩ := hsp
            exact end_ S6 fun s7 J7 => ⟨_, _, J7, q6⟩
          | brk =>
            obtain ⟨σ6, H6, S6, q6⟩ := hsp
            exact end_ S6 fun s7 J7 => ⟨_, _, J7, q6⟩
          | cont =>
            obtain ⟨σ6, H6, S6, q6⟩ := hsp
            exact end_ S6 fun s7 J7 => ⟨_, _, J7, q6⟩
          | ret u =>
            obtain ⟨v6, σ6, H6, S6, r6, q6⟩ := hsp
            exact end_ S6 fun s7 J7 => ⟨_, _, _, J7, r6, q6⟩
        | false =>
          show wpAny _ X.A (handleBy (.ref a) X.env hds2) _ _ _
          exact ih (hno rfl)
    exact go hh w
  · cases f with
    | next =>
      obtain ⟨σ', H', J', q⟩ := hsp
      exact wpAny_execs_nil ⟨σ', H', J'.ofTry ok, q⟩
    | brk =>
      obtain ⟨σ', H', J', q⟩ := hsp
      exact ⟨σ', H', J'.ofTry ok, q⟩
    | cont =>
      obtain ⟨σ', H', J', q⟩ := hsp
      exact ⟨σ', H', J'.ofTry ok, q⟩
    | ret u =>
      obtain ⟨v, σ', H', J', r, q⟩ := hsp
      exact ⟨v, σ', H', J'.ofTry ok, r, q⟩
end
end Mi

namespace Mi
open PySem PySem.Spec PyProof.Rows L2
/-! ### try, the mirror -/
def noxO : O → O
  | .exc _ _ _ => .bad
  | o => o
def unsl (i : Nat) : O → O
  | .nx w S => .nx (w.set i none) S
  | .bk w S => .bk (w.set i none) S
  | .ct w S => .ct (w.set i none) S
  | .exc _ _ _ => .bad
  | o => o
abbrev Hd := (Str → Option Bool) × Option Nat × (Ex → MS)
def hdl : List Hd → Ex → Lw → List C → O
  | [], x, w, S => .exc x w S
  | (ok, none, su) :: r, x, w, S => match ok x.cls with
    | some true => noxO (su x w S)
    | some false => hdl r x w S
    | none => .bad
  | (ok, some i, su) :: r, x, w, S => match ok x.cls with
    | some true => if i < w.length then unsl i (su x (w.set i none) S) else .bad
    | some false => hdl r x w S
    | none => .bad
def sTry (body : MS) (hs : List Hd) : MS := fun w S => match body w S with
  | .exc x w1 S1 => hdl hs x w1 S1
  | o => o
/-- which classes the clause names -/
def Exm (K : PySem.W.Frag) (mg : Str → Option Value) (ok : Str → Option Bool) (c : Value) : Prop := ∀ cn b, ok cn = some b → ∃ C, mg cn = some (.ref C) ∧ PySem.W.exmOne K (.ref C) c = some b
inductive HdM (X : Cx) (g : G) : List ExceptHandler → List (Value × Option Nat × (Addr → Value → Option Addr → TS)) → List Hd → Prop
  | nil : HdM X g [] [] []
  | one {x : Str} {c : Value} {ok : Str → Option Bool} {ms : MS} {b₀ : Stmt} {suite : List Stmt} {np pos' : Pos} {hds : List ExceptHandler} {l : List (Value × Option Nat × (Addr → Value → Option Addr → TS))} {hs : List Hd} (hc : Names X x c) (em : Exm X.K X.mg ok c)
      (hsu : ∀ (a : Addr) (oe : Obj) (cls : Value) (d : Option Addr) (pn : List (Addr × Obj)), L2N.Zn cls d oe → (∃ vs, oe.data = .fields vs) → DSs (X.suite a ((a, oe) :: pn)) (g.quiet g.F) (b₀ :: suite) ms) (r : HdM X g hds l hs) :
      HdM X g (.ExceptHandler (some (.Name x np)) none (b₀ :: suite) pos' :: hds) ((c, none, fun _ _ _ => LS (g.quiet g.F) ms) :: l) ((ok, none, fun _ => ms) :: hs)
  | as {x n : Str} {i : Nat} {c : Value} {ok : Str → Option Bool} {su : Ex → MS} {b₀ : Stmt} {suite : List Stmt} {np pos' : Pos} {hds : List ExceptHandler} {l : List (Value × Option Nat × (Addr → Value → Option Addr → TS))} {hs : List Hd} (hc : Names X x c) (em : Exm X.K X.mg ok c) (hN : X.N.Nodup) (hi : X.N[i]? = some n) (hln : X.env.kindOf n = some .local)
      (hsu : ∀ (a : Addr) (oe : Obj) (cls : Value) (d : Option Addr) (pn : List (Addr × Obj)), L2N.Zn cls d oe → (∃ vs, oe.data = .fields vs) → PSs (X.suite a ((a, oe) :: pn)) (b₀ :: suite) (LSX (g.quiet g.F) i a cls d su)) (r : HdM X g hds l hs) :
      HdM X g (.ExceptHandler (some (.Name x np)) (some n) (b₀ :: suite) pos' :: hds) ((c, some i, fun a cls d => LSX (g.quiet g.F) i a cls d su) :: l) ((ok, some i, su) :: hs)
section
variable {X : Cx} {g : G}
theorem HdM.hdg {hds : List ExceptHandler} {l : List (Value × Option Nat × (Addr → Value → Option Addr → TS))} {hs : List Hd} (h : HdM X g hds l hs) : HdG X hds l := by
  induction h with
  | nil => exact .nil
  | one hc em hsu r ih => exact .one hc hsu ih
  | as hc em hN hi hln hsu r ih => exact .as hc hN hi hln hsu ih
theorem Slots.unset {K : PySem.W.Frag} {H : Hp} {F : Addr → Prop} {ρ : List (Option Addr)} {w : Lw} {σ : L2.St} (h : Slots K H F ρ w σ) (i : Nat) (y : Option V) : Slots K H F ρ (w.set i none) (σ.set i y) := by
  refine ⟨by rw [List.length_set, List.length_set]; exact h.1, fun j x e => ?_⟩
  by_cases c : i = j
  · subst c
    by_cases hl : i < w.length
    · rw [List.getElem?_set_self hl] at e; cases e
    · rw [List.getElem?_eq_none (by simpa using hl)] at e; cases e
  · rw [List.getElem?_set_ne c] at e ⊢
    exact h.2 j x e
theorem hdl_ok {hds : List ExceptHandler} {l : List (Value × Option Nat × (Addr → Value → Option Addr → TS))} {hs : List Hd} (h : HdM X g hds l hs) (hK : g.K = X.K) (hM : g.mg = X.mg) {D : Ends} {x : Ex} {ρ : List (Option Addr)} {S : List C} {w : Lw} {σ : L2.St} {H : Hp} {cls : Value} {dd : Option Addr}
    (rl : Rl g.K g.F ρ S H) (sl : Slots g.K H g.F ρ w σ) (rx : RepX g.K g.mg H (bar g.F ρ) x cls dd) (r : RunO g (hdl hs x w S) D ρ σ H) : wGen X.K g.Wx D l cls dd σ H := by
  induction h with
  | nil => exact r ρ H σ cls dd (Ext.refl _ _) rl sl rx
  | @one x1 c ok ms b₀ suite np pos' hds l hs hc em hsu r1 ih =>
    obtain ⟨C, hm, rfl, _⟩ := id rx
    unfold hdl at r
    cases e : ok x.cls with
    | none => rw [e] at r; exact r.elim
    | some b =>
      obtain ⟨C', hm', ex⟩ := em _ _ e
      have ee : C' = C := by rw [← hM, hm] at hm'; cases hm'; rfl
      subst ee
      refine ⟨b, ex, fun hb a ha => ?_, fun hb => ?_⟩
      · subst hb
        rw [e] at r
        refine ⟨ρ, S, w, rl, sl, ?_⟩
        have r : RunO g (noxO (ms w S)) D ρ σ H := r
        cases em2 : ms w S with
        | exc x2 w2 S2 => rw [em2] at r; exact r.elim
        | nx w2 S2 => rw [em2] at r; exact r
        | rt x2 S2 => rw [em2] at r; exact r
        | bk w2 S2 => rw [em2] at r; exact r
        | ct w2 S2 => rw [em2] at r; exact r
        | bad => rw [em2] at r; exact r.elim
      · subst hb
        rw [e] at r
        exact ih r
  | @as x1 n i c ok su b₀ suite np pos' hds l hs hc em hN hi hln hsu r1 ih =>
    obtain ⟨C, hm, rfl, _⟩ := id rx
    unfold hdl at r
    cases e : ok x.cls with
    | none => rw [e] at r; exact r.elim
    | some b =>
      obtain ⟨C', hm', ex⟩ := em _ _ e
      have ee : C' = C := by rw [← hM, hm] at hm'; cases hm'; rfl
      subst ee
      refine ⟨b, ex, fun hb a ha => ?_, fun hb => ?_⟩
      · subst hb
        rw [e] at r
        simp only at r
        split at r
        · rename_i hlt
          have hls : i < σ.length := by rw [← sl.1]; exact hlt
          refine ⟨x, ρ, S, w.set i none, rl, sl.unset i _, rx, List.getElem?_set_self hls, ?_⟩
          cases em2 : su x (w.set i none) S with
          | exc x2 w2 S2 => rw [em2] at r; exact r.elim
          | nx w2 S2 => rw [em2] at r; exact fun ρ' H' σ' e' l' s' => r ρ' H' _ e' l' (s'.unset i none)
          | rt x2 S2 => rw [em2] at r; exact r
          | bk w2 S2 => rw [em2] at r; exact fun ρ' H' σ' e' l' s' => r ρ' H' _ e' l' (s'.unset i none)
          | ct w2 S2 => rw [em2] at r; exact fun ρ' H' σ' e' l' s' => r ρ' H' _ e' l' (s'.unset i none)
          | bad => rw [em2] at r; exact r.elim
        · exact r.elim
      · subst hb
        rw [e] at r
        exact ih r
theorem s_try {body : List Stmt} {h₀ : ExceptHandler} {hds : List ExceptHandler} {l : List (Value × Option Nat × (Addr → Value → Option Addr → TS))} {pos : Pos} {mb : MS} {hs : List Hd} (tk : L2N.Takes X g.Wx)
    (hb : ∀ (W : WX) (pn : List (Addr × Obj)) (xe : Value → Shared → Prop), L2N.Takes (X.tr pn xe) W → PassesOwn (model X.prog X.w) X.A X.env xe → DSs (X.tr pn xe) ⟨g.K, g.mg, g.F, W⟩ body mb)
    (hh : HdM X g (h₀ :: hds) l hs) (hs1 : X.stack = X.env :: X.outer := by rfl) (hf : X.env.frame = some X.env.locals := by rfl) (hK : g.K = X.K := by rfl) (hM : g.mg = X.mg := by rfl) : DS X g (.Try body (h₀ :: hds) [] [] pos) (sTry mb hs) := by
  refine PSw (ps_try_gen (tb := fun W => LS ⟨g.K, g.mg, g.F, W⟩ mb) hs1 hf tk hb hh.hdg) fun D σ H ⟨ρ, S, w, rl, sl, h⟩ => ?_
  refine ⟨ρ, S, w, rl, sl, ?_⟩
  unfold sTry at h
  cases e : mb w S with
  | exc x w1 S1 =>
    rw [e] at h
    intro ρ1 H1 σ1 cls dd e1 l1 s1 rx
    exact hdl_ok hh hK hM l1 s1 rx (RunO.ext e1 h)
  | nx w1 S1 => rw [e] at h; exact h
  | rt x1 S1 => rw [e] at h; exact h
  | bk w1 S1 => rw [e] at h; exact h
  | ct w1 S1 => rw [e] at h; exact h
  | bad => rw [e] at h; exact h.elim
end
end Mi

namespace Mi
open PySem PySem.Spec PyProof.Rows L2
/-- a class's defs -/
def clsB : Stmt → List Stmt
  | .ClassDef _ _ _ b .. => b
  | _ => []
theorem exm_two {K : PySem.W.Frag} {C S : Addr} {b : Bool} (h1 : PySem.W.subIn K (.ref S) (.type "BaseException") = some true) (h2 : PySem.W.isClsIn K S = true) (h3 : PySem.W.typeIn K (.ref S) = some (.type "type")) (h4 : PySem.W.subIn K (.ref C) (.ref S) = some b) :
    PySem.W.exmOne K (.ref C) (.ref S) = some b := by
  have e1 : (PySem.W.subIn K (.ref S) (.type "BaseException") == some true) = true := by rw [h1] <;> rfl
  have e2 : ((PySem.W.clsIn K S).isSome && PySem.W.typeIn K (.ref S) == some (.type "type")) = true := by
    have h2' : (PySem.W.clsIn K S).isSome = true := h2
    rw [h2', h3] <;> rfl
  show (if (PySem.W.subIn K (.ref S) (.type "BaseException") == some true) = true then (if ((PySem.W.clsIn K S).isSome && PySem.W.typeIn K (.ref S) == some (.type "type")) = true then PySem.W.subIn K (.ref C) (.ref S) else none) else none) = some b
  rw [if_pos e1, if_pos e2]
  exact h4
/-- the clause names S: its class is met by those in the table -/
def okT (t : List (Str × Bool)) (cn : Str) : Option Bool := t.lookup cn
theorem exm_nil {K : PySem.W.Frag} {mg : Str → Option Value} {c : Value} : Exm K mg (okT []) c := fun cn b h => by cases h
theorem exm_cons {K : PySem.W.Frag} {mg : Str → Option Value} {c : Value} {cn : Str} {b : Bool} {t : List (Str × Bool)} {C : Addr} (hm : mg cn = some (.ref C)) (hx : PySem.W.exmOne K (.ref C) c = some b) (r : Exm K mg (okT t) c) : Exm K mg (okT ((cn, b) :: t)) c := fun x k h => by
  unfold okT at h
  rw [List.lookup_cons] at h
  cases e : x == cn with
  | true =>
    rw [e] at h
    cases h
    rw [beq_iff_eq.mp e]
    exact ⟨C, hm, hx⟩
  | false => rw [e] at h; exact r x k h
/-! ### recursion: by how deep it may still go -/
theorem cp_bad {P : Program} {w : World} {K : PySem.W.Frag} {mg : Str → Option Value} {base : Heap} {k : Nat} {x : Str} {st : Stmt} {ps : List Str} (h : Has K mg x st ps) : CP P w K mg base k x (fun _ => .bad) :=
  let ⟨f, fd, F, hm, hb⟩ := h
  ⟨f, fd, ps, hm, F.kp, hb, ⟨fun vs H Q E ⟨_, _, _, _, q⟩ => q.elim, fun A outer s H args us vs Q E hr he hb hv ⟨_, _, _, _, q⟩ => q.elim⟩⟩
theorem cs_bad {P : Program} {w : World} {K : PySem.W.Frag} {mg : Str → Option Value} {base : Heap} {k : Nat} {x : Str} {st : Stmt} {ps : List Str} (h : Has K mg x st ps) : CS P w K mg base k x (fun _ _ => .bad) :=
  let ⟨f, fd, F, hm, hb⟩ := h
  ⟨f, fd, ps, hm, F.kp, hb, ⟨fun vs H Q E ⟨_, _, _, _, _, _, q⟩ => q.elim, fun A outer s H args us vs Q E hr he hb hv ⟨_, _, _, _, _, _, q⟩ => q.elim⟩⟩
end Mi

namespace Mi
open PySem PySem.Spec PyProof.Rows L2
theorem s_par2 {X : Cx} {g : G} {m : MA} {i j : Nat} {x y : Str} {a b : Expr} {px py pt pos : Pos} {kt k2 pt2} (nd : X.N.Nodup) (ha : DA X g [a, b] m) (hc : X.calm = true := by rfl) (hi : X.N[i]? = some x := by rfl) (hj : X.N[j]? = some y := by rfl) (hij : i ≠ j := by decide)
    (hx : X.env.scope.names.lookup x = some .local := by rfl) (hy : X.env.scope.names.lookup y = some .local := by rfl) (hw : swappedStores [.Tuple [.Name x px, .Name y py] kt pt] (.Tuple [a, b] k2 pt2) X.env = pure (some [x, y]) := by rfl)
    (hs : swapsWithSole [.Tuple [.Name x px, .Name y py] kt pt] (.Tuple [a, b] k2 pt2) pos.line X.env = pure false := by rfl) :
    DS X g (.Assign [.Tuple [.Name x px, .Name y py] kt pt] (.Tuple [a, b] k2 pt2) pos) (sPar i j m) := s_par nd ha hc hi hj hij fun ha => ps_par hc nd hi hj hij hx hy ha hw hs
/-! ### a op b op c op d, as a test -/
section
variable {X : Cx} {g : G} {a b c d : Expr} {ma mb mc md : ME} {pos : Pos} {op1 op2 op3 : CmpOp} {r1 r2 r3 : R2} {ta tb tc td : TE}
def tChain3 (r1 r2 r3 : R2) (ta tb tc td : TE) : TE := fun σ H Q => ta σ H fun x H1 => tb σ H1 fun y H2 => r1 x y H2 fun z H3 => ∃ k, z = .bl k ∧
  (if k = true then tc σ H3 fun w' H4 => r2 y w' H4 fun z2 H5 => ∃ k2, z2 = .bl k2 ∧ (if k2 = true then td σ H5 fun v' H6 => r3 w' v' H6 Q else Q (.bl false) H5) else Q (.bl false) H3)
theorem pt_chain3 (ho1 : OpR X (compareOp op1) r1) (ho2 : OpR X (compareOp op2) r2) (ho3 : OpR X (compareOp op3) r3) (ha : PE X a ta) (hb : PE X b tb) (hc : PE X c tc) (hd : PE X d td)
    (hm : lastMarks [op1, op2, op3] [b, c, d] = false := by with_unfolding_all rfl) : PT X (.Compare a [op1, op2, op3] [b, c, d] pos) (tTest (tChain3 r1 r2 r3 ta tb tc td)) := by
  refine ⟨fun pins s σ H Q I h => ?_⟩
  refine isTrue_chain (thn (ha.run pins s σ H _ I h) fun v s1 ⟨x, H1, I1, q1, h1⟩ => test_link (thn (hb.run pins s1 σ H1 _ I1 h1) fun u s2 ⟨y, H2, I2, q2, h2⟩ =>
    thn (ho1 pins s2 σ H2 x y v u _ I2 q1 q2 h2) fun e s3 ⟨z, H3, I3, q3, k, ez, h3⟩ => ?_)) hm
  subst ez
  cases q3
  refine wpAny_truthy_bool ?_
  cases k with
  | false =>
    obtain ⟨k', e', q'⟩ := h3
    cases e'
    exact ite_ff ⟨H3, I3, q'⟩
  | true =>
    refine ite_tt (test_link (thn (hc.run pins s3 σ H3 _ I3 h3) fun w' s4 ⟨z', H4, I4, q4, h4⟩ => thn (ho2 pins s4 σ H4 y z' u w' _ I4 q2 q4 h4) fun e s5 ⟨z2, H5, I5, q5, k2, ez, h5⟩ => ?_))
    subst ez
    cases q5
    refine wpAny_truthy_bool ?_
    cases k2 with
    | false =>
      obtain ⟨k', e', q'⟩ := h5
      cases e'
      exact ite_ff ⟨H5, I5, q'⟩
    | true =>
      refine ite_tt (test_last (thn (hd.run pins s5 σ H5 _ I5 h5) fun v' s6 ⟨z3, H6, I6, q6, h6⟩ => thn (ho3 pins s6 σ H6 z' z3 w' v' _ I6 q4 q6 h6) fun e s7 ⟨z4, H7, I7, q7, k3, ez, h7⟩ => ?_))
      subst ez
      cases q7
      exact wpAny_truthy_bool ⟨H7, I7, h7⟩
def mChain3 (f1 f2 f3 : D → D → Option D) (a b c d : ME) : ME := fun w S => (a w S).bind fun x S1 => (b w S1).bind fun y S2 => (o2 f1 x y S2).bind fun z S3 => match blW z with
  | some true => (c w S3).bind fun v S4 => (o2 f2 y v S4).bind fun z2 S5 => match blW z2 with
    | some true => (d w S5).bind (o2 f3 v)
    | some false => .ok (.d (.bl false)) S5
    | none => .bad
  | some false => .ok (.d (.bl false)) S3
  | none => .bad
theorem t_chain3 {f1 f2 f3 : D → D → Option D} (k1 : CR X g op1 f1) (k2 : CR X g op2 f2) (k3 : CR X g op3 f3) (ha : DE X g a ma) (hb : DE X g b mb) (hc : DE X g c mc) (hd : DE X g d md)
    (hm : lastMarks [op1, op2, op3] [b, c, d] = false := by with_unfolding_all rfl) : DT X g (.Compare a [op1, op2, op3] [b, c, d] pos) (mB (mChain3 f1 f2 f3 ma mb mc md)) := by
  obtain ⟨_, o1, i1⟩ := k1
  obtain ⟨_, o2', i2⟩ := k2
  obtain ⟨_, o3, i3⟩ := k3
  refine PTw (pt_chain3 o1 o2' o3 ha hb hc hd hm) fun σ H Q h => ?_
  obtain ⟨ρ, S, w, l, sl, h⟩ := mB_le h
  refine ⟨ρ, S, w, l, sl, Run.bnd h fun ρ1 S1 x u H1 e1 l1 r1 h1 => ?_⟩
  refine ⟨ρ1, S1, w, l1, sl.mono e1, Run.bnd h1 fun ρ2 S2 y v H2 e2 l2 r2 h2 => ?_⟩
  refine i1 ρ2 S2 x y u v σ H2 _ l2 (r1.mono e2) r2 (Run.bnd h2 fun ρ3 S3 z q H3 e3 l3 r3 h3 => ?_)
  cases e : blW z with
  | none => simp only [e] at h3; exact h3.elim
  | some k =>
    have := blW_inv e
    subst this
    refine ⟨k, Rep.bl_inv (K := g.K) (H := H3) (B := bar g.F ρ3) r3, ?_⟩
    have sl3 := ((sl.mono e1).mono e2).mono e3
    cases k with
    | false => exact Run.ok_ l3 RepW.blk h3
    | true =>
      refine ⟨ρ3, S3, w, l3, sl3, Run.bnd h3 fun ρ4 S4 v' q' H4 e4 l4 r4 h4 => ?_⟩
      refine i2 ρ4 S4 y v' v q' σ H4 _ l4 ((r2.mono e3).mono e4) r4 (Run.bnd h4 fun ρ5 S5 z2 q2 H5 e5 l5 r5 h5 => ?_)
      cases e' : blW z2 with
      | none => simp only [e'] at h5; exact h5.elim
      | some k2 =>
        have := blW_inv e'
        subst this
        refine ⟨k2, Rep.bl_inv (K := g.K) (H := H5) (B := bar g.F ρ5) r5, ?_⟩
        cases k2 with
        | false => exact Run.ok_ l5 RepW.blk h5
        | true => exact ⟨ρ5, S5, w, l5, (sl3.mono e4).mono e5, Run.bnd h5 fun ρ6 S6 v2 q6 H6 e6 l6 r6 h6 => i3 ρ6 S6 v' v2 q' q6 σ H6 _ l6 ((r4.mono e5).mono e6) r6 h6⟩
end
end Mi

namespace Mi
open PySem PySem.Spec PyProof.Rows L2
open L2H (RoomH Hot1 HotC FnH cxH)
/-! ### defs called while an exception is handled -/
def CPH (P : Program) (w : World) (K : PySem.W.Frag) (mg : Str → Option Value) (base : Heap) (k : Nat) (x : Str) (F : List D → RP) : Prop := ∃ f fd ps, mg x = some (.ref f) ∧ PySem.W.keepIn K (.ref f) = true ∧ Binds K fd ps [] ∧ FnH P w K mg base (L2N.CX P w) k f fd ps (spP K mg F)
section
variable {P : Program} {w : World} {K : PySem.W.Frag} {mg : Str → Option Value} {base : Heap} {x : Str} {st : Stmt} {N ps : List Str} {k : Nat} {m : MS}
theorem cph_mk (h : Has K mg x st ps) (sc : FnScope N ps (defScope st))
    (hb : ∀ (cdv : Value) (A : Around) (outer : List Env) (s : Shared) (H : Hp) (E : XK) (p : Addr × Obj) (f : Addr), RoomH k (A.deeper (envOfC x (defScope st) s.heap.objs.size f cdv)) → HotC (cxH (L2N.CX P w) P w K mg base N x (defScope st) f cdv A outer s H E p) → ∀ B : Addr → Prop,
      DSs (cxH (L2N.CX P w) P w K mg base N x (defScope st) f cdv A outer s H E p) ⟨K, mg, B, fun cls d _ H => E cls d H⟩ (defBody st) m) :
    CPH P w K mg base (k + 1) x (runP ps.length N.length m) := by
  obtain ⟨f, fd, F, hm, hb'⟩ := h
  refine ⟨f, fd, ps, hm, F.kp, hb', ?_⟩
  obtain ⟨oc, od, kV, doc, pm, an, cdv, ct, osl, rfl, lk, hcd⟩ := F.ex
  refine L2H.fn_ofH lk hcd sc (fun vs H Q E h => ?_) fun A outer s H vs Q E p hot hr h => ?_
  · obtain ⟨B, ds, _, r, h⟩ := h
    by_cases hl : ds.length = ps.length
    · rw [r.length, hl]
    · unfold runP at h
      rw [if_neg hl] at h
      exact h.elim
  · obtain ⟨B, ds, hB, r, h⟩ := h
    refine ⟨_, hb cdv A outer s H E p f hr ⟨p, hot, List.mem_singleton.mpr rfl⟩ B, [], [], ent (ds.map W.d) (N.length - ds.length), Rl.nil hB, ?_, ?_⟩
    · have := ent_slots (N := N) (repWs_d (ρ := []) (F := B) (by rw [bar_nil]; exact r))
      rwa [List.length_map] at this
    · have hl : ds.length = ps.length := by
        by_cases hl : ds.length = ps.length
        · exact hl
        · unfold runP at h
          rw [if_neg hl] at h
          exact h.elim
      unfold runP at h
      rw [if_pos hl] at h
      cases e : m (ent (ds.map W.d) (N.length - ds.length)) [] with
      | nx w1 S1 =>
        rw [e] at h
        exact fun ρ1 H1 σ1 e1 l1 s1 => h H1 .non (fun b o q => e1.keep b o q (by simp)) Rep.non
      | rt x S1 =>
        rw [e] at h
        cases x with
        | l n => exact h.elim
        | d d => exact fun ρ1 H1 v e1 l1 r1 => h H1 v (fun b o q => e1.keep b o q (by simp)) (Rep.mono ⟨fun _ _ h _ => h, fun b o h n z => n (.inl z)⟩ _ _ r1)
      | exc x w1 S1 =>
        rw [e] at h
        exact fun ρ1 H1 σ1 cls dd e1 l1 s1 rx => h H1 cls dd (fun b o q => e1.keep b o q (by simp)) (rx.mono ⟨fun _ _ h _ => h, fun b o h n z => n (.inl z)⟩)
      | bk w1 S1 => rw [e] at h; exact h.elim
      | ct w1 S1 => rw [e] at h; exact h.elim
      | bad => rw [e] at h; exact h.elim
end
section
variable {X : Cx} {g : G} {k : Nat} {x : Str} {p pos : Pos} {e : Expr} {es : List Expr} {m : MA}
theorem d_cph {F : List D → RP} (c : CPH X.prog X.w X.K X.mg X.base k x F) (hr : RoomH k X.A) (hot : HotC X) (tk : L2N.Takes X g.Wx)
    (ha : DA X g (e :: es) m) (hg : Gl X x := by rfl) (hK : g.K = X.K := by rfl) (hM : g.mg = X.mg := by rfl) (hdb : (x == ("__debug__" : Str)) = false := by decide) (he : starEach (e :: es) X.env = (false, eval e X.env) :: starEach es X.env := by rfl) (hpl : (backTo pos (starEach es X.env)).any (·.1) = false := by rfl) :
    DE X g (.Call (.Name x p) (e :: es) [] pos) (mCallP F m) := by
  obtain ⟨_, _, _, hm, hk, hb, Fo⟩ := c
  refine PEw (L2H.pe_callH Fo hr hot hg hm hk hb (fun σ => L2N.passAt tk σ) ha hdb he hpl) fun σ H Q ⟨ρ, S, w, l, sl, h⟩ => ?_
  refine ⟨ρ, S, w, l, sl, Run.bnd h fun ρ1 S1 xs vs H1 e1 l1 r1 h1 => ?_⟩
  cases ep : pures xs with
  | none => rw [ep] at h1; exact h1.elim
  | some ds =>
    simp only [ep] at h1
    have rd := pures_ok ep r1
    rw [hK] at rd
    refine ⟨bar g.F ρ1, ds, bar_dom l1, rd, ?_⟩
    cases eF : F ds with
    | bad => rw [eF] at h1; exact h1
    | ok d =>
      rw [eF] at h1
      intro H2 v sm rv
      rw [← hK] at rv
      exact h1 ρ1 H2 v (ext_same sm) (rl_same l1 sm) rv
    | exc z =>
      rw [eF] at h1
      intro H2 cls dd sm rv
      rw [← hK, ← hM] at rv
      exact h1 ρ1 H2 cls dd (ext_same sm) (rl_same l1 sm) rv
theorem ex_cph {i : Nat} {a : Addr} {cls : Value} {dd : Option Addr} {m : Ex → MA} {F : List D → RP} (c : CPH X.prog X.w X.K X.mg X.base k x F) (hr : RoomH k X.A) (hot : HotC X) (tk : L2N.Takes X g.Wx) (ha : PA X (e :: es) (LAX g i a cls dd m)) (hg : Gl X x := by rfl) (hK : g.K = X.K := by rfl) (hM : g.mg = X.mg := by rfl)
    (hdb : (x == ("__debug__" : Str)) = false := by decide) (he : starEach (e :: es) X.env = (false, eval e X.env) :: starEach es X.env := by rfl) (hpl : (backTo pos (starEach es X.env)).any (·.1) = false := by rfl) :
    PE X (.Call (.Name x p) (e :: es) [] pos) (LEX g i a cls dd fun y => mCallP F (m y)) := by
  obtain ⟨_, _, _, hm, hk, hb, Fo⟩ := c
  refine PEw (L2H.pe_callH Fo hr hot hg hm hk hb (fun σ => L2N.passAt tk σ) ha hdb he hpl) fun σ H Q ⟨x, ρ, S, w, l, sl, rx, si, h⟩ => ?_
  refine ⟨x, ρ, S, w, l, sl, rx, si, Run.bnd h fun ρ1 S1 xs vs H1 e1 l1 r1 h1 => ?_⟩
  cases ep : pures xs with
  | none => rw [ep] at h1; exact h1.elim
  | some ds =>
    simp only [ep] at h1
    have rd := pures_ok ep r1
    rw [hK] at rd
    refine ⟨bar g.F ρ1, ds, bar_dom l1, rd, ?_⟩
    cases eF : F ds with
    | bad => rw [eF] at h1; exact h1
    | ok d =>
      rw [eF] at h1
      intro H2 v sm rv
      rw [← hK] at rv
      exact h1 ρ1 H2 v (ext_same sm) (rl_same l1 sm) rv
    | exc z =>
      rw [eF] at h1
      intro H2 cls dd sm rv
      rw [← hK, ← hM] at rv
      exact h1 ρ1 H2 cls dd (ext_same sm) (rl_same l1 sm) rv
/-- the suite's own exception is the one that is handled -/
theorem hot_suite {X : Cx} {a : Addr} {oe : Obj} {cls : Value} {d : Option Addr} {pn : List (Addr × Obj)} (hz : L2N.Zn cls d oe) (hf : ∃ vs, oe.data = .fields vs) : HotC (X.suite a ((a, oe) :: pn)) :=
  let ⟨vs, e⟩ := hf
  ⟨(a, oe), ⟨rfl, vs, e, hz.2.2 vs e⟩, List.mem_cons_self⟩
end
end Mi

namespace Mi
open PySem PySem.Spec PyProof.Rows L2
/-! ### max, min of a list -/
def maxOf : List Int → Option Int
  | [] => none
  | a :: r => some (r.foldl max a)
def minOf : List Int → Option Int
  | [] => none
  | a :: r => some (r.foldl min a)
theorem foldl_max (r : List Int) : ∀ a, (∀ y ∈ a :: r, y ≤ r.foldl max a) ∧ r.foldl max a ∈ a :: r := by
  induction r with
  | nil => intro a; simp
  | cons b r ih =>
    intro a
    obtain ⟨h1, h2⟩ := ih (max a b)
    refine ⟨fun y hy => ?_, ?_⟩
    · have h3 := h1 (max a b) (by simp)
      show y ≤ r.foldl max (max a b)
      rcases List.mem_cons.mp hy with rfl | hy
      · omega
      · rcases List.mem_cons.mp hy with rfl | hy
        · omega
        · exact h1 y (by simp [hy])
    · show r.foldl max (max a b) ∈ _
      rcases List.mem_cons.mp h2 with e | e
      · rw [e]
        by_cases c : a ≤ b
        · rw [Int.max_eq_right c]; simp
        · rw [Int.max_eq_left (by omega)]; simp
      · simp [e]
theorem foldl_min (r : List Int) : ∀ a, (∀ y ∈ a :: r, r.foldl min a ≤ y) ∧ r.foldl min a ∈ a :: r := by
  induction r with
  | nil => intro a; simp
  | cons b r ih =>
    intro a
    obtain ⟨h1, h2⟩ := ih (min a b)
    refine ⟨fun y hy => ?_, ?_⟩
    · have h3 := h1 (min a b) (by simp)
      show r.foldl min (min a b) ≤ y
      rcases List.mem_cons.mp hy with rfl | hy
      · omega
      · rcases List.mem_cons.mp hy with rfl | hy
        · omega
        · exact h1 y (by simp [hy])
    · show r.foldl min (min a b) ∈ _
      rcases List.mem_cons.mp h2 with e | e
      · rw [e]
        by_cases c : a ≤ b
        · rw [Int.min_eq_left c]; simp
        · rw [Int.min_eq_right (by omega)]; simp
      · simp [e]
def max1F : List D → Option D
  | [.lst xs] => (intsOf xs).bind fun ns => (maxOf ns).map .int
  | _ => none
def min1F : List D → Option D
  | [.lst xs] => (intsOf xs).bind fun ns => (minOf ns).map .int
  | _ => none
section
variable {X : Cx} {g : G}
theorem f_max1 (hc : X.calm = true := by rfl) : FR X g (.builtin "max") max1F := by
  refine ⟨_, cr_max hc, fun ρ S ds c vs H Q l r h q => ?_⟩
  unfold max1F at h
  split at h
  · rename_i xs
    obtain ⟨v, rfl, r1⟩ := r.one
    obtain ⟨p, us, rfl, h1, h2⟩ := RepR.lst_inv r1
    cases e : intsOf xs with
    | none => rw [e] at h; cases h
    | some ns =>
      rw [e] at h
      have eu := intsOf_rep e h2
      subst eu
      cases ns with
      | nil => cases h
      | cons a t =>
        cases h
        obtain ⟨k1, k2⟩ := foldl_max t a
        refine ⟨p, a :: t, rfl, .of h1, by simp, fun m hm hy => ?_⟩
        have e2 : m = t.foldl max a := Int.le_antisymm (k1 m hm) (hy _ k2)
        rw [e2]
        exact same_q l (.int _) q
  · cases h
theorem f_min1 (hc : X.calm = true := by rfl) : FR X g (.builtin "min") min1F := by
  refine ⟨_, cr_min hc, fun ρ S ds c vs H Q l r h q => ?_⟩
  unfold min1F at h
  split at h
  · rename_i xs
    obtain ⟨v, rfl, r1⟩ := r.one
    obtain ⟨p, us, rfl, h1, h2⟩ := RepR.lst_inv r1
    cases e : intsOf xs with
    | none => rw [e] at h; cases h
    | some ns =>
      rw [e] at h
      have eu := intsOf_rep e h2
      subst eu
      cases ns with
      | nil => cases h
      | cons a t =>
        cases h
        obtain ⟨k1, k2⟩ := foldl_min t a
        refine ⟨p, a :: t, rfl, .of h1, by simp, fun m hm hy => ?_⟩
        have e2 : m = t.foldl min a := Int.le_antisymm (hy _ k2) (k1 m hm)
        rw [e2]
        exact same_q l (.int _) q
  · cases h
end
/-! ### any, all of a list of truth values -/
def blsOf : List D → Option (List Bool)
  | [] => some []
  | .bl b :: ds => (blsOf ds).map (b :: ·)
  | _ :: _ => none
theorem blsOf_rep {K : PySem.W.Frag} {H : Hp} {B : Addr → Prop} : ∀ {ds : List D} {bs : List Bool} {vs : List V}, blsOf ds = some bs → Reps K H B ds vs → vs = bs.map V.bl
  | [], bs, vs, e, r => by cases e; rw [r.nil_inv]; rfl
  | d :: ds, bs, vs, e, r => by
    obtain ⟨v, q, rfl, r1, r2⟩ := r.cons_inv
    cases d with
    | bl b =>
      simp only [blsOf] at e
      cases h : blsOf ds with
      | none => rw [h] at e; cases e
      | some cs =>
        rw [h] at e
        cases e
        rw [Rep.bl_inv r1, blsOf_rep h r2]
        rfl
    | _ => cases e
def anyF : List D → Option D
  | [.lst xs] => (blsOf xs).map fun bs => .bl (bs.any id)
  | _ => none
def allF : List D → Option D
  | [.lst xs] => (blsOf xs).map fun bs => .bl (bs.all id)
  | _ => none
section
variable {X : Cx} {g : G}
theorem f_any (hc : X.calm = true := by rfl) : FR X g (.builtin "any") anyF := by
  refine ⟨_, cr_any hc, fun ρ S ds c vs H Q l r h q => ?_⟩
  unfold anyF at h
  split at h
  · rename_i xs
    obtain ⟨v, rfl, r1⟩ := r.one
    obtain ⟨p, us, rfl, h1, h2⟩ := RepR.lst_inv r1
    cases e : blsOf xs with
    | none => rw [e] at h; cases h
    | some bs =>
      rw [e] at h
      cases h
      have eu := blsOf_rep e h2
      subst eu
      exact ⟨p, bs, rfl, .of h1, same_q l (.bl _) q⟩
  · cases h
theorem f_all (hc : X.calm = true := by rfl) : FR X g (.builtin "all") allF := by
  refine ⟨_, cr_all hc, fun ρ S ds c vs H Q l r h q => ?_⟩
  unfold allF at h
  split at h
  · rename_i xs
    obtain ⟨v, rfl, r1⟩ := r.one
    obtain ⟨p, us, rfl, h1, h2⟩ := RepR.lst_inv r1
    cases e : blsOf xs with
    | none => rw [e] at h; cases h
    | some bs =>
      rw [e] at h
      cases h
      have eu := blsOf_rep e h2
      subst eu
      exact ⟨p, bs, rfl, .of h1, same_q l (.bl _) q⟩
  · cases h
end
theorem bo_any : bootBuiltins "any" = some (.builtin "any") := by decide +kernel
theorem bo_all : bootBuiltins "all" = some (.builtin "all") := by decide +kernel
end Mi

namespace Mi
open PySem PySem.Spec PyProof.Rows L2
/-! ### a comprehension whose elements may raise -/
theorem noteFrame_at {e : Value} {env env' : Env} (h : env'.frame = env.frame) : noteFrame e env' = noteFrame e env := by
  unfold noteFrame PySem.frameOf
  rw [h]
theorem notedBy_at {M : Model} {A : Around} {env env' : Env} {E : Value → Shared → Prop} (h : env'.frame = env.frame) : notedBy M A env' E = notedBy M A env E := by
  unfold notedBy
  funext x s
  rw [noteFrame_at h]
end Mi

namespace Mi
open PySem PySem.Spec PyProof.Rows L2
/-! ### list comprehensions whose element may raise -/
theorem sky_fly {B B' : Heap} {l l' : List Env} {a L : Addr} {Z Z' : Obj → Prop} {h : Heap} (f : HandSPX.FlyingZ B l a Z h) (s : L2.Sky B' l' a Z' L h) : HandSPX.FlyingZ B' l' a Z' h := by
  obtain ⟨_, _, _, oe, vs, T, oT, ts, he, _, hd, h1, _, _, hT, hdT, h3⟩ := f
  rcases s with ⟨_, _, _, oe', vs', he', _, hd', h1'⟩ | s | ⟨_, _, _, oe', vs', T', oT', ts', he', _, hd', h1', _, _, hT', hdT', h3'⟩
  · rw [he] at he'; cases he'
    rw [hd] at hd'; cases hd'
    rw [h1] at h1'; cases h1'
  · exact s
  · rw [he] at he'; cases he'
    rw [hd] at hd'; cases hd'
    rw [h1] at h1'; cases h1'
    rw [hT] at hT'; cases hT'
    rw [hdT] at hdT'; cases hdT'
    rw [h3] at h3'
    exact absurd h3' (by simp [rawInt])
/-- an exception leaves the block and is in the def's own air -/
theorem raise_out {X : Cx} {W : WX} {pins : List (Addr × Obj)} {σ : L2.St} {H3 : Hp} {s3 : Shared} {scope : Scope} {ce : Env} {fp : List Addr} {pn : List (Addr × Obj)} {xe : Value → Shared → Prop}
    (hs : X.stack = X.env :: X.outer) (hf : X.env.frame = some X.env.locals) (tk : L2N.Takes X W) (I3 : Inv X pins σ H3 s3) (hcf : ce.frame = X.env.frame) (hC : s3.heap.objs.size ≤ ce.locals) (f3 : ∀ b ∈ fp, FpOk X pins H3 b)
    {pins' : List (Addr × Obj)} {σ' : L2.St} {H5 : Hp} {s5 s' : Shared} {u : Value} (I5 : Inv ((X.blk s3 H3 scope ce fp).tr pn xe) pins' σ' H5 s5) (c : L2N.CX X.prog X.w X.stack H5 s5 (fun cls d H => W cls d σ H) u s') :
    notedBy (model X.prog X.w) X.A ce (CompFails (model X.prog X.w) X.A X.xe ce) u s' := by
  have fl0 : ∃ a B cls d, u = .ref a ∧ HandSPX.FlyingZ B X.stack a (L2N.Zn cls d) s'.heap := by
    obtain ⟨a, B, H', cls, d, e, fl, _⟩ := c
    exact ⟨a, B, cls, d, e, fl⟩
  obtain ⟨a0, B0, cls0, d0, e0, fl0⟩ := fl0
  obtain ⟨a', B, sI, pins2, σ2, H', cls, d, rfl, I6, nb, up, sky, na, os, ag, w⟩ := L2N.XE.of_call (W := fun cls d _ H => W cls d σ H) I5 (fun _ _ _ h => h) c
  obtain rfl : a' = a0 := by cases e0; rfl
  have fl : HandSPX.FlyingZ B (X.env :: X.outer) a' (L2N.Zn cls d) s'.heap := by
    have z := sky_fly fl0 sky
    rw [← hs]
    exact z
  have I7 : Inv X pins σ H' sI := I3.call' (ch := fp) I6.os I6.base I6.hok I6.bare fun b hb => ⟨(f3 b hb).2.2.2.1, (f3 b hb).2.1, (f3 b hb).2.2.2.2.1, (f3 b hb).2.2.2.2.2⟩
  have nC : H' ce.locals = none := I6.free
  have fC : FpOk X pins H' ce.locals := I3.fpOk hC nC
  obtain ⟨m, hn, _⟩ := I6.loc
  have hn : sI.heap.Ns ce.locals m := hn
  have I8 : Inv X pins σ H' { sI with heap := PySem.W.hideAll sI.heap [ce.locals] } := I7.turned (t' := sI.toks) (fun b o hb e => PySem.W.hideAll_get _ e (by simpa using hb)) fC.1 fC.2.1 fC.2.2.2.1 fC.2.2.2.2.1 fC.2.2.2.2.2
  have hfr : X.A.frames = some (X.env :: X.outer) := by rw [I3.ok.frames, hs]
  rw [notedBy_at (env := X.env) hcf]
  show wpAny _ _ (noteFrame (.ref a') X.env) _ _ _
  refine PXN.looks_onZ L2N.Zn.steady hfr hf fl fun h3 hh3 up3 => ?_
  have hn3 : h3.Ns ce.locals m := hn.upToSlots (up.trans up3)
  refine ⟨m, hn3, fun h4 m4 hn4 sb => ?_⟩
  obtain ⟨b3, n3, ff3, oe, vs, T, oT, ts, he, hz, hd, h1, hnT, hTe, hT, hdT, h3'⟩ := hh3
  have dC : ∃ o, h3.get? ce.locals = some o ∧ ∀ vs, o.data ≠ .fields vs := by
    obtain ⟨o, es, ep, ho, hd, _⟩ := hn3
    exact ⟨o, ho, fun vs q => by rw [hd] at q; cases q⟩
  obtain ⟨oC, hoC, dC⟩ := dC
  have neA : a' ≠ ce.locals := fun z => by rw [z, hoC] at he; cases he; exact dC _ hd
  have neT : T ≠ ce.locals := fun z => by rw [z, hoC] at hT; cases hT; exact dC _ hdT
  have h2n : ∀ b, B.get? b = none → (PySem.W.hideAll B [ce.locals]).get? b = none := fun b e => by
    cases q : (PySem.W.hideAll B [ce.locals]).get? b with
    | none => rfl
    | some o => rw [PySem.W.of_hideAll _ q] at e; cases e
  have h2c : ∀ b o, (PySem.W.hideAll B [ce.locals]).get? b = some o → B.get? b = some o ∧ b ≠ ce.locals := fun b o e => ⟨PySem.W.of_hideAll _ e, fun z => by
    rw [z, PySem.W.hideAll_none _ (by simp)] at e; cases e⟩
  have b4 : (PySem.W.hideAll B [ce.locals]).StaysIn h4 := fun b o e => (sb.2 b (h2c b o e).2).trans (b3 b o (h2c b o e).1)
  have ff4 : h4.FunFrames (PySem.W.hideAll B [ce.locals]) (X.env :: X.outer) := funFrames_none (Heap.FunFrames.sameBut sb hn4 ff3) fun b hb => h2n b (ff3.mem hb).1
  have he4 : h4.get? a' = some oe := (sb.2 a' neA).trans he
  unfold PySem.passOn
  refine wpAny_bind (wpAny_field he4 hd h1 ?_)
  rw [if_neg (show ¬ ((Value.ref T == Value.none) = true) from by simp)]
  have fin : wpAny (model X.prog X.w) X.A (setFlight (.ref a') ce.frame) (fun _ s4 => wpAny (model X.prog X.w) X.A (throw (.ref a') : Sem Value) (fun _ _ => False) X.xe s4) X.xe { s' with heap := h4 } := by
    rw [hcf, hf]
    refine HandSPX.setFlight_anyZ (s := { s' with heap := h4 }) b4 ff4 ⟨oe, vs, T, oT, ts, he4, hz, hd, h1, h2n T hnT, hTe, (sb.2 T neT).trans hT, hdT, h3'⟩ fun h5 k1 k2 k3 k4 => wpAny_throw (tk _ _ ?_)
    refine ⟨a', PySem.W.hideAll B [ce.locals], { sI with heap := PySem.W.hideAll sI.heap [ce.locals] }, pins, σ, H', cls, d, rfl, I8, fun b o e hb => ?_, fun b o e nf => ?_, .inr (.inr (by rw [hs]; exact ⟨k1, h2n a' n3, k2, k3⟩)), na, os, ag, w⟩
    · have hbC : b ≠ ce.locals := fun z => by
        have e : (PySem.W.hideAll sI.heap [ce.locals]).get? b = some o := e
        rw [z, PySem.W.hideAll_none _ (by simp)] at e; cases e
      exact PySem.W.hideAll_get _ (nb b o (PySem.W.of_hideAll _ e) hb) (by simpa using hbC)
    · have hbC : b ≠ ce.locals := fun z => by
        have e : (PySem.W.hideAll sI.heap [ce.locals]).get? b = some o := e
        rw [z, PySem.W.hideAll_none _ (by simp)] at e; cases e
      obtain ⟨sl, q⟩ := (up.trans up3) b o (PySem.W.of_hideAll _ e) nf
      obtain ⟨sl2, q2⟩ := k4 b _ ((sb.2 b hbC).trans q) nf
      exact ⟨sl2, q2⟩
  first
    | exact wpAny_bind (wpAny_pure (wpAny_bind fin))
    | exact wpAny_bind fin
theorem pe_lcX {X : Cx} {W : WX} {elt tg iter : Expr} {ifs : List Expr} {scope : Scope} {own : List (Str × Nat)} {pos : Pos} {wi : TI} {g : TG} {tt : TT} {te : XK → TE}
    (hs : X.stack = X.env :: X.outer) (hf : X.env.frame = some X.env.locals) (tk : L2N.Takes X W) (hc : X.calm = true) (hN : X.N.Nodup) (hi : PI X tg iter wi) (ok : BlkOk X.N X.env.scope scope own)
    (hg : ∀ (s : Shared) (H : Hp) (C : Addr) (cl : List (Str × Addr)) (fp : List Addr), PG (X.blk s H scope (compEnvC scope cl C X.env) fp) tg g) (ht : ∀ (s : Shared) (H : Hp) (C : Addr) (cl : List (Str × Addr)) (fp : List Addr), PTs (X.blk s H scope (compEnvC scope cl C X.env) fp) ifs tt)
    (he : ∀ (s : Shared) (H : Hp) (C : Addr) (cl : List (Str × Addr)) (fp : List Addr) (pn : List (Addr × Obj)) (xe : Value → Shared → Prop) (E : XK), (∀ σ, PassesAt (L2N.CX X.prog X.w) ((X.blk s H scope (compEnvC scope cl C X.env) fp).tr pn xe) σ E) →
      PE ((X.blk s H scope (compEnvC scope cl C X.env) fp).tr pn xe) elt (te E)) (hfs : ∀ x, foldedSetIterable iter X.env x = pure x := by intro _; rfl) :
    PE X (.ListComp elt [⟨tg, iter, ifs, 0⟩] scope pos) (fun σ H Q => tLc wi g tt (te fun cls d H => W cls d σ H) (own.map (·.2)) σ H Q) := by
  refine ⟨fun pins s σ H Q I h => ?_⟩
  rw [eval_ListComp]
  have hfree : ∀ y ∈ scope.names, y.2 = .free → ∃ c, X.env.cells.lookup y.1 = some c := fun y hy e => by
    rcases ok.free y hy e with k | k
    · exact I.ok.has _ (.inl k)
    · exact I.ok.has _ (.inr k)
  refine comprehension_at (use := none) rfl hfs (closure_ok hfree) ok.kind (fun y hy e => by rw [ok.uniq y hy, e])
    (thn (hi.run pins s σ H _ I h) fun xv s1 hx => thn hx fun itv s2 h2 => ?_)
  obtain ⟨it, fp, tn, J, H2, e, I2, T, st2, f2, q⟩ := h2
  subst e
  refine wpAny_newObj_type (newEnv_comp ?_) (by show 0 ≤ sizeLine; decide)
  generalize hD : s2.heap.objs.size = D
  have hDn : H2 D = none := I2.hok.fresh (Nat.le_of_eq hD)
  obtain ⟨Wn, ⟨m0, w0⟩, turn⟩ := q D hDn
  generalize hs3 : ({ s2 with heap := s2.heap.push { cls := .type "list", data := .seq ([] : List Value).toArray } } : Shared) = s3
  have h3 : s3.heap = s2.heap.push { cls := .type "list", data := .seq ([] : List Value).toArray } := by rw [← hs3]
  have I3 : Inv X pins σ (upd H2 D (.lst [])) s3 := by
    rw [← hs3]
    refine I2.laid (t' := s2.toks) (fun b o e => Heap.get?_push_of_some _ e) (Nat.le_of_eq hD) ⟨Nat.zero_le _, [], 0, .nil, ?_⟩
    rw [← hD]
    exact Heap.get?_push_size _ rfl
  have sz : ∀ b ∈ fp, b < s2.heap.objs.size := fun b hb =>
    let ⟨_, e, _⟩ := T.obj _ _ st2 b hb
    Heap.lt_size e
  have f3 : ∀ b ∈ fp, FpOk X pins (upd H2 D (.lst [])) b ∧ b < s3.heap.objs.size := fun b hb => by
    have hlt := sz b hb
    refine ⟨⟨?_, (f2 b hb).2⟩, by rw [h3, Heap.size_push]; exact Nat.lt_succ_of_lt hlt⟩
    rw [upd_ne (by rw [← hD]; exact Nat.ne_of_lt hlt)]
    exact (f2 b hb).1
  have st3 : tn 0 s3.heap := T.keep _ _ _ st2 fun b _ o e => by rw [h3]; exact Heap.get?_push_of_some _ e
  have I4 := block_start I3 ok hN f3
  generalize hcl : cellsFrom (s3.heap.objs.size + 1) scope.names (cloFrom X.env.cells scope.names []) = cl at I4
  have pg := hg s3 (upd H2 D (.lst [])) s3.heap.objs.size cl fp
  have pt := ht s3 (upd H2 D (.lst [])) s3.heap.objs.size cl fp
  have pe := he s3 (upd H2 D (.lst [])) s3.heap.objs.size cl fp
  suffices hh : codeAny (model X.prog X.w) X.A (.compStart (.ListComp elt [⟨tg, iter, ifs, 0⟩] scope pos) 0 (.ref it) (.ref D) (compEnvC scope cl s3.heap.objs.size X.env)) (compEnds (model X.prog X.w) X.A X.xe none (EP X pins σ Q) (.ref D) (compEnvC scope cl s3.heap.objs.size X.env))
      { s3 with heap := pushCells (s3.heap.push { cls := .type "dict", data := .dict #[] }) scope.names } by
    first
      | exact hh
      | (rw [← hcl] at hh; exact hh)
  have nfp : ∀ b ∈ fp, (upd H2 D (.lst [])) b = none := fun b hb => (f3 b hb).1.1
  generalize hce : compEnvC scope cl s3.heap.objs.size X.env = ce at I4 pg pt pe ⊢
  have cL : ce.locals = s3.heap.objs.size := by subst hce; rfl
  have cF : ce.frame = X.env.frame := by subst hce; rfl
  generalize hH3 : upd H2 D (.lst []) = H3 at I3 I4 pg pt pe w0 nfp f3
  generalize hs4 : ({ s3 with heap := pushCells (s3.heap.push { cls := .type "dict", data := .dict #[] }) scope.names } : Shared) = s4 at I4 ⊢
  have st4 : tn 0 s4.heap := T.keep _ _ _ st3 fun b _ o e => by rw [← hs4]; exact pushCells_keeps _ _ _ _ (Heap.get?_push_of_some _ e)
  have stat : ∀ {σ' : L2.St} {H' : Hp} {s' : Shared}, Inv (X.blk s3 H3 scope ce fp) [] σ' H' s' → (∀ b ∈ fp, H' b = none) → ∀ b ∈ fp, FpOk (X.blk s3 H3 scope ce fp) [] H' b := fun {σ' H' s'} I' hn b hb =>
    ⟨hn b hb, (I'.ok.exf b hb).1, I'.ok.exfs b hb, .inl hb, fun x c e => (I'.ok.exf b hb).2 x c e, fun p hp => absurd (show p ∈ ([] : List (Addr × Obj)) ++ [] from hp) (by simp)⟩
  have loop : codeAny (model X.prog X.w) X.A (.compLoop (.ListComp elt [⟨tg, iter, ifs, 0⟩] scope pos) 0 (.ref it) (.ref D) ce) (compEnds (model X.prog X.w) X.A X.xe none (EP X pins σ Q) (.ref D) ce) s4 := by
    refine compLoop_any (fun n s' => ∃ i H', Inv (X.blk s3 H3 scope ce fp) [] (L2.wipe σ (own.map (·.2))) H' s' ∧ tn i s'.heap ∧ (∀ b ∈ fp, H' b = none) ∧ Wn i n H') ?_ m0 ⟨0, H3, I4, st4, nfp, w0⟩
    rintro n s5 ⟨i, H5, I5, st5, n5, w5⟩
    rcases turn i n H5 w5 with ⟨stop, qq⟩ | ⟨go, Nx, hNx, step⟩
    · have td := T.done (X.blk s3 H3 scope ce fp) rfl rfl rfl hc i [] s5 _ H5 (fun _ _ => False) I5 (stat I5 n5) st5 stop
      refine thnF td fun r s6 ⟨hr, I6⟩ => ?_
      subst hr
      have I7 : Inv X pins σ H5 s6 := I3.call' (ch := fp) I6.os I6.base I6.hok I6.bare fun b hb => ⟨(f3 b hb).1.2.2.2.1, (f3 b hb).1.2.1, (f3 b hb).1.2.2.2.2.1, (f3 b hb).1.2.2.2.2.2⟩
      have nC : H5 ce.locals = none := I6.free
      obtain ⟨m, hn, _⟩ := I6.loc
      have hn : s6.heap.Ns ce.locals m := hn
      obtain ⟨f0, f1, f2', f3', f4, f5⟩ := I3.fpOk (Nat.le_of_eq cL.symm) nC
      exact ⟨m, hn, fun h'' sb => ⟨.ref D, H5, I7.turned (t' := s6.toks) (fun b o hb e => (sb.2 b hb).trans e) f0 f1 f3' f4 f5, rfl, qq⟩⟩
    · have ti := T.item (X.blk s3 H3 scope ce fp) rfl rfl rfl hc i [] s5 _ H5 (fun _ _ => False) I5 (stat I5 n5) st5 go
      refine thnF ti fun r s6 ⟨u, hr, h6⟩ => ?_
      subst hr
      refine thnF h6 fun _ s7 ⟨x, H7, I7, r7, y7, st7, n7⟩ => ?_
      have I7' := I7.pinned (stat I7 n7) (T.obj _ _ st7)
      refine thnF (pg.run _ s7 _ H7 x u _ I7' r7 (step x H7 y7)) fun _ s8 ⟨σ8, H8, I8, hw8, q8⟩ => ?_
      refine thnF (pt.run _ s8 σ8 H8 _ I8 q8) fun b s9 ⟨H9, I9, q9⟩ => ?_
      have fin : ∀ {s' : Shared} {H' : Hp}, Inv (X.blk s3 H3 scope ce fp) ([] ++ pinsAt fp s7.heap) σ8 H' s' → Nx H' → ∃ m, m < n ∧ ∃ i H', Inv (X.blk s3 H3 scope ce fp) [] (L2.wipe σ (own.map (·.2))) H' s' ∧ tn i s'.heap ∧ (∀ b ∈ fp, H' b = none) ∧ Wn i m H' := fun {s' H'} I' nx => by
        obtain ⟨m', hm, w'⟩ := hNx H' nx
        have pin' : ∀ b ∈ fp, ∀ o, s7.heap.get? b = some o → s'.heap.get? b = some o ∧ H' b = none := fun b hb o e =>
          let z := I'.pin (b, o) (List.mem_append_right _ (List.mem_append_right _ (mem_pinsAt hb e)))
          ⟨z.1, z.2.1⟩
        refine ⟨m', hm, i + 1, H', (I'.unpinned (pins := [])).weak (by rw [← hw8, L2.wipe_length]) (fun j v e => ?_), T.keep _ _ _ st7 fun b hb o e => (pin' b hb o e).1, fun b hb => ?_, w'⟩
        · rw [← hw8] at e
          exact (L2.wipe_some e).1
        · obtain ⟨o, e, _⟩ := T.obj _ _ st7 b hb
          exact (pin' b hb o e).2
      cases b with
      | false =>
        simp only [Bool.false_eq_true, if_false] at q9 ⊢
        exact fin I9 q9
      | true =>
        simp only [if_true] at q9 ⊢
        have pass : ∀ σ', PassesAt (L2N.CX X.prog X.w) ((X.blk s3 H3 scope ce fp).tr ((X.blk s3 H3 scope ce fp).pn ++ ([] ++ pinsAt fp s7.heap)) (notedBy (model X.prog X.w) X.A ce (CompFails (model X.prog X.w) X.A X.xe ce))) σ' (fun cls d H => W cls d σ H) :=
          fun σ' pins' H' s' e s'' I' c => raise_out hs hf tk I3 cF (Nat.le_of_eq cL.symm) (fun b hb => (f3 b hb).1) I' c
        have r3 := (pe _ _ _ pass).run [] s9 σ8 H9 _ (I9.toTry _) q9
        exact thn r3 fun z s10 ⟨yv, H10, I10, r10, acc, hD10, hz10, nx⟩ => app_ok (X := X.blk s3 H3 scope ce fp) (I10.ofTry I9.ok) hD10 hz10 r10 fun s11 I11 => fin I11 nx
  exact codeAny_compStart_list loop (T.self X.A 0 _ _ _ st4 loop)
end Mi

namespace Mi
open PySem PySem.Spec PyProof.Rows L2
/-! ### [f(x) for x in xs], f may raise: the mirror -/
def lcDX (t : MG) (tt : MT) (te : ME) : List D → List D → Lw → List C → R (List D)
  | [], acc, _, S => .ok acc S
  | d :: ds, acc, w, S => (t (.d d) w S).nox.bind fun w1 S1 => (tt w1 S1).nox.bind fun k S2 => if k = true then
      (te w1 S2).bind fun y S3 => match y with
        | .d y => if acc.length < sizeLine then lcDX t tt te ds (acc ++ [y]) w S3 else .bad
        | .l _ => .bad
      else lcDX t tt te ds acc w S2
def mLcX (mi : MI) (vs : List Nat) (t : MG) (tt : MT) (te : ME) : ME := fun w S => (mi w S).bind fun ds S1 => (lcDX t tt te ds [] (forget vs w) S1).bind lcEnd
/-- g, exceptions by E -/
def G.wish (g : G) (F : Addr → Prop) (E : XK) : G := ⟨g.K, g.mg, F, fun cls d _ H => E cls d H⟩
def LEr (g : G) (m : ME) (E : XK) : TE := fun σ H Q => ∃ F, LE (g.wish F E) m σ H Q
section
variable {X : Cx} {g : G}
theorem pe_r {e : Expr} {m : ME} {E : XK} (h : ∀ F, DE X (g.wish F E) e m) : PE X e (LEr g m E) := ⟨fun pins s σ H Q I ⟨F, q⟩ => (h F).run pins s σ H Q I q⟩
theorem lcX_le {mi : MI} {is : List Nat} {t : MG} {tt : MT} {te : ME} {σ : L2.St} {H : Hp} {Q : VK} (h : LE g (mLcX mi is t tt te) σ H Q) : tLc (LI g mi) (LGx g is t) (LTx g tt) (LEr g te fun cls d H => g.Wx cls d σ H) is σ H Q := by
  obtain ⟨ρ, S, w, l, sl, h⟩ := h
  refine ⟨ρ, S, w, l, sl, Run.bnd h fun ρ1 S1 ds J H1 e1 l1 r1 h1 D nD => ?_⟩
  have sl1 := sl.mono e1
  generalize hF' : (fun a => g.F a ∨ a = D) = F'
  have FD : F' D := by rw [← hF']; exact .inr rfl
  have Fg : ∀ a, g.F a → F' a := fun a h => by rw [← hF']; exact .inl h
  have FF : ∀ b, F' b → g.F b ∨ H1 b = none := fun b h => by
    rw [← hF'] at h
    exact h.imp id fun e => by rw [e]; exact nD
  have FF' : ∀ b, F' b → g.F b ∨ b = D := fun b h => by rw [← hF'] at h; exact h
  have nF : ¬ g.F D := fun z => l1.dom D z nD
  have nρ : some D ∉ ρ1 := fun z => new_nb l1 nD (.inr z)
  have start : Rl g.K F' ρ1 S1 (upd H1 D (.lst [])) := by
    have l2 := rl_new (o := .lst []) l1 nD
    refine ⟨l2.len, fun n a e => ?_, l2.live, l2.inj, fun a h => ?_, fun n a e z => ?_⟩
    · obtain ⟨c, h1, h2⟩ := l1.cell n a e
      exact ⟨c, h1, h2.mono ((ext_new nD).ev2 FF) fun o q => upd_keep nD q⟩
    · rcases FF' a h with z | z
      · exact l2.dom a z
      · subst z; rw [upd_same]; exact fun q => nomatch q
    · rcases FF' a z with z | z
      · exact l1.sep n a e z
      · subst z; exact nρ (List.mem_of_getElem? e)
  refine ⟨fun i m H' => ∃ ρ' S' acc vs', Rl g.K F' ρ' S' H' ∧ Ext ρ1 H1 ρ' H' ∧ H' D = some (.lst vs') ∧ Reps g.K H' (bar F' ρ') acc vs' ∧ m = ds.length - i ∧ Run g (rW g) ((lcDX t tt te (ds.drop i) acc (Mi.forget is w) S').bind lcEnd) ρ1 σ H1 Q,
    ⟨ds.length, ρ1, S1, [], [], start, ext_new nD, upd_same, Reps.nil, rfl, h1⟩, ?_⟩
  rintro i m H' ⟨ρ', S', acc, vs', l', ex', hD, racc, rfl, h'⟩
  have nρ' : some D ∉ ρ' := fun z => by
    obtain ⟨n, hn⟩ := List.getElem?_of_mem z
    exact l'.sep n D hn FD
  obtain ⟨go, stop⟩ := r1 F' FF ρ' S' H' ex'.xf l' i
  by_cases hi : i < ds.length
  · have ed : ds[i]? = some ds[i] := List.getElem?_eq_getElem hi
    obtain ⟨g1, g2⟩ := go _ ed
    rw [List.drop_eq_getElem_cons hi] at h'
    refine .inr ⟨g1, fun H2 => ∃ ρ2 S2 acc2 vs2, Rl g.K F' ρ2 S2 H2 ∧ Ext ρ1 H1 ρ2 H2 ∧ H2 D = some (.lst vs2) ∧ Reps g.K H2 (bar F' ρ2) acc2 vs2 ∧ Run g (rW g) ((lcDX t tt te (ds.drop (i + 1)) acc2 (Mi.forget is w) S2).bind lcEnd) ρ1 σ H1 Q, ?_, fun x H2 y => ?_⟩
    · rintro H2 ⟨ρ2, S2, acc2, vs2, q1, q2, q3, q4, q5⟩
      exact ⟨ds.length - (i + 1), by omega, ρ2, S2, acc2, vs2, q1, q2, q3, q4, rfl, q5⟩
    · obtain ⟨y1, y2, y3⟩ := g2 x H2 y
      have ex2 := ex'.trans y1
      have s2 := (sl1.mono2 ex2 FF).wipe is
      have h2 : Run g (rW g) (((t (.d ds[i]) (Mi.forget is w) S').nox.bind _).bind lcEnd) ρ1 σ H1 Q := h'
      refine ⟨F', ρ', S', Mi.forget is w, .d ds[i], y2, s2, y3, ?_⟩
      cases et : t (.d ds[i]) (Mi.forget is w) S' with
      | exc x S3 => rw [et] at h2; exact h2.elim
      | bad => rw [et] at h2; exact h2.elim
      | ok w3 S3 =>
        rw [et] at h2
        intro ρ3 H3 σ3 e3 l3 s3
        refine ⟨wipe_agr s3.2, ?_⟩
        have h3 : Run g (rW g) (((tt w3 S3).nox.bind _).bind lcEnd) ρ1 σ H1 Q := h2
        refine ⟨F', ρ3, S3, w3, l3, s3.1, ?_⟩
        cases ek : tt w3 S3 with
        | exc x S4 => rw [ek] at h3; exact h3.elim
        | bad => rw [ek] at h3; exact h3.elim
        | ok k S4 =>
          rw [ek] at h3
          intro ρ4 H4 b e4 l4 rb
          have rb : k = b := rb
          subst rb
          have ex4 := ((ex2.trans e3).trans e4)
          have keepD : ∀ {ρ5 : List (Option Addr)} {H5 : Hp}, Ext ρ' H' ρ5 H5 → H5 D = some (.lst vs') := fun e => e.keep D _ hD nρ'
          have h4 := h3
          cases k with
          | false =>
            exact ⟨ρ4, S4, acc, vs', l4, ex4, keepD ((y1.trans e3).trans e4), Reps.mono (((y1.trans e3).trans e4).ev F') _ _ racc, h4⟩
          | true =>
            have h4 : Run g (rW g) (((te w3 S4).bind _).bind lcEnd) ρ1 σ H1 Q := h4
            refine ⟨F', ρ4, S4, w3, l4, s3.1.mono e4, ?_⟩
            cases ey : te w3 S4 with
            | exc x S5 =>
              rw [ey] at h4
              intro ρ5 H5 cls dd e5 l5 rx
              have l5 : Rl g.K F' ρ5 S5 H5 := l5
              have rx : RepX g.K g.mg H5 (bar F' ρ5) x cls dd := rx
              exact h4 ρ5 H5 cls dd (ex4.trans e5) (l5.weakF Fg) (rx.mono ⟨fun _ _ h _ => h, fun b o h n m => n (m.imp (Fg b) id)⟩)
            | bad => rw [ey] at h4; exact h4.elim
            | ok y S5 =>
              rw [ey] at h4
              cases y with
              | l n => exact h4.elim
              | d y =>
                intro ρ5 H5 v e5 l5 rv
                have l5 : Rl g.K F' ρ5 S5 H5 := l5
                have rv : Rep g.K H5 (bar F' ρ5) y v := rv
                have ex5 := ((y1.trans e3).trans e4).trans e5
                have h5 : Run g (rW g) ((if acc.length < sizeLine then lcDX t tt te (ds.drop (i + 1)) (acc ++ [y]) (Mi.forget is w) S5 else .bad).bind lcEnd) ρ1 σ H1 Q := h4
                by_cases hz : acc.length < sizeLine
                · rw [if_pos hz] at h5
                  refine ⟨vs', keepD ex5, by rw [racc.length]; exact hz, ρ5, S5, acc ++ [y], vs' ++ [v], rl_F l5 FD, ?_, upd_same, ?_, ?_⟩
                  · refine ⟨fun b o hb nb => ?_, (ex'.trans ex5).len, (ex'.trans ex5).old, (ex'.trans ex5).new⟩
                    rw [upd_ne (ne_of_none hb nD)]
                    exact (ex'.trans ex5).keep b o hb nb
                  · exact (Reps.mono (ev_F FD) _ _ (Reps.mono (ex5.ev F') _ _ racc)).append (Reps.cons (Rep.mono (ev_F FD) _ _ rv) Reps.nil)
                  · exact h5
                · rw [if_neg hz] at h5
                  exact h5.elim
  · refine .inl ⟨stop (by omega), ?_⟩
    rw [List.drop_eq_nil_of_le (by omega)] at h'
    refine h' ρ' H' (.ref D) ex' (l'.weakF Fg) ?_
    exact Rep.lst (K := g.K) (H := H') (B := bar g.F ρ') hD (fun z => z.elim nF nρ') (Reps.mono ⟨fun _ _ h _ => h, fun b o h n m => n (m.imp (Fg b) id)⟩ _ _ racc)
variable {elt tg iter : Expr} {ifs : List Expr} {scope : Scope} {own : List (Str × Nat)} {pos : Pos} {mi : MI} {t : MG} {tt : MT} {te : ME}
theorem d_lcX (hst : X.stack = X.env :: X.outer) (hf : X.env.frame = some X.env.locals) (tk : L2N.Takes X g.Wx) (hc : X.calm = true) (hN : X.N.Nodup) (hi : DI X g tg iter mi) (ok : BlkOk X.N X.env.scope scope own)
    (hg : ∀ (s : Shared) (H : Hp) (C : Addr) (cl : List (Str × Addr)) (fp : List Addr) F, DG (X.blk s H scope (compEnvC scope cl C X.env) fp) (g.quiet F) tg (own.map (·.2)) t) (ht : ∀ (s : Shared) (H : Hp) (C : Addr) (cl : List (Str × Addr)) (fp : List Addr), DTs (X.blk s H scope (compEnvC scope cl C X.env) fp) g ifs tt)
    (he : ∀ (s : Shared) (H : Hp) (C : Addr) (cl : List (Str × Addr)) (fp : List Addr) (pn : List (Addr × Obj)) (xe : Value → Shared → Prop) (F : Addr → Prop) (E : XK), (∀ σ, PassesAt (L2N.CX X.prog X.w) ((X.blk s H scope (compEnvC scope cl C X.env) fp).tr pn xe) σ E) →
      DE ((X.blk s H scope (compEnvC scope cl C X.env) fp).tr pn xe) (g.wish F E) elt te) (hs : ∀ x, foldedSetIterable iter X.env x = pure x := by intro _; rfl) :
    DE X g (.ListComp elt [⟨tg, iter, ifs, 0⟩] scope pos) (mLcX mi (own.map (·.2)) t tt te) :=
  PEw (pe_lcX (te := fun E => LEr g te E) hst hf tk hc hN hi ok (fun s H C cl fp => pg_x (hg s H C cl fp)) (fun s H C cl fp => pts_x (ht s H C cl fp)) (fun s H C cl fp pn xe E hp => pe_r fun F => he s H C cl fp pn xe F E hp) hs) fun _ _ _ => lcX_le
end
section
variable {X : Cx} {g : G} {k : Nat} {x : Str} {p pos : Pos} {e : Expr} {es : List Expr} {m : MA}
/-- a call inside such an element -/
theorem d_cpE {F : List D → RP} {E : XK} (c : CP X.prog X.w X.K X.mg X.base k x F) (hr : Room k X.A) (tk : ∀ σ, PassesAt (L2N.CX X.prog X.w) X σ E)
    (ha : DA X g (e :: es) m) (hE : g.Wx = fun cls d _ H => E cls d H := by rfl) (hg : Gl X x := by rfl) (hK : g.K = X.K := by rfl) (hM : g.mg = X.mg := by rfl) (hdb : (x == ("__debug__" : Str)) = false := by decide) (he : starEach (e :: es) X.env = (false, eval e X.env) :: starEach es X.env := by rfl) (hpl : (backTo pos (starEach es X.env)).any (·.1) = false := by rfl) :
    DE X g (.Call (.Name x p) (e :: es) [] pos) (mCallP F m) := by
  obtain ⟨_, _, _, hm, hk, hb, Fo⟩ := c
  refine PEw (pe_callS (E := fun _ => E) Fo hr hg hm hk hb tk ha hdb he hpl) fun σ H Q ⟨ρ, S, w, l, sl, h⟩ => ?_
  refine ⟨ρ, S, w, l, sl, Run.bnd h fun ρ1 S1 xs vs H1 e1 l1 r1 h1 => ?_⟩
  cases ep : pures xs with
  | none => rw [ep] at h1; exact h1.elim
  | some ds =>
    simp only [ep] at h1
    have rd := pures_ok ep r1
    rw [hK] at rd
    refine ⟨bar g.F ρ1, ds, bar_dom l1, rd, ?_⟩
    cases eF : F ds with
    | bad => rw [eF] at h1; exact h1
    | ok d =>
      rw [eF] at h1
      intro H2 v sm rv
      rw [← hK] at rv
      exact h1 ρ1 H2 v (ext_same sm) (rl_same l1 sm) rv
    | exc z =>
      rw [eF] at h1
      intro H2 cls dd sm rv
      rw [← hK, ← hM] at rv
      have z := h1 ρ1 H2 cls dd (ext_same sm) (rl_same l1 sm) rv
      rw [hE] at z
      exact z
end
end Mi

namespace Mi
open PySem PySem.Spec PyProof.Rows L2
/-! ### texts, int(text), str(int), f-strings, raise, try: what must hold ahead -/
section
variable {α β : Type} {QW : W → List C → Prop} {QB : Bool → List C → Prop} {X : XP} {w : Lw} {S : List C} {K : KO} {P : D → Prop}
theorem int2_i {i : Int} : int2F [.int i] = some (.int i) := nrfl rfl
theorem int2_b {k : Bool} : int2F [.bl k] = some (.int (if k = true then 1 else 0)) := nrfl rfl
theorem okM_int2 {a : Str} : okM (int2F [.str a]) P = (a.length ≤ 640 ∧ okM (PySem.intText? a) fun i => P (.int i)) := by
  unfold int2F
  by_cases h : a.length ≤ 640
  · simp only [if_pos h, h, true_and]
    cases PySem.intText? a <;> rfl
  · simp only [if_neg h, h, false_and]
    rfl
theorem okM_str {i : Int} : okM (strF [.int i]) P = ((i.natAbs.log2 < 1920 ∧ (toString i : Str).length ≤ sizeLine) ∧ P (.str (toString i))) := by
  unfold strF
  by_cases h : i.natAbs.log2 < 1920 ∧ (toString i : Str).length ≤ sizeLine
  · simp only [if_pos h, h, true_and]; rfl
  · simp only [if_neg h, h, false_and]; rfl
theorem ok_oM {f : D → List D → Option D} {x : W} {xs : List W} : okR (oM f x xs S) QW X = okM (vw x S) fun d => okM (vws xs S) fun ds => okM (f d ds) fun c => QW (.d c) S := by
  unfold oM
  cases vw x S with
  | none => cases vws xs S <;> rfl
  | some d =>
    cases vws xs S with
    | none => rfl
    | some ds => exact ok_ans
theorem mtOk_sd {a : Str} : mtOk "str" (.d (.str a)) S = true := nrfl rfl
theorem tB_s {f : Str → Bool} {a : Str} : tB f (.str a) [] = some (.bl (f a)) := nrfl rfl
theorem okM_split {a b : Str} : okM (tSplit (.str a) [.str b]) P = ((b.length ≠ 0 ∧ a.length + 2 ≤ sizeLine) ∧ short (Txt.split a b) = true ∧ P (.lst ((Txt.split a b).map .str))) := by
  unfold tSplit strsD
  by_cases h : b.length ≠ 0 ∧ a.length + 2 ≤ sizeLine
  · simp only [if_pos h]
    by_cases h2 : short (Txt.split a b) = true
    · simp only [if_pos h2]
      exact propext ⟨fun z => ⟨h, h2, z⟩, fun z => z.2.2⟩
    · simp only [if_neg h2]
      exact propext ⟨fun z => z.elim, fun z => (h2 z.2.1).elim⟩
  · simp only [if_neg h, h, false_and]; rfl
theorem okM_part {a b : Str} : okM (tPart (.str a) [.str b]) P = ((b.length ≠ 0 ∧ short [(Txt.partition a b).1, (Txt.partition a b).2.1, (Txt.partition a b).2.2] = true) ∧ P (.tup [.str (Txt.partition a b).1, .str (Txt.partition a b).2.1, .str (Txt.partition a b).2.2])) := by
  unfold tPart
  by_cases h : b.length ≠ 0 ∧ short [(Txt.partition a b).1, (Txt.partition a b).2.1, (Txt.partition a b).2.2] = true
  · simp only [if_pos h]
    exact propext ⟨fun z => ⟨h, z⟩, And.right⟩
  · simp only [if_neg h, h, false_and]; rfl
theorem strsOf_map (ys : List Str) : strsOf (ys.map D.str) = some ys := by
  induction ys with
  | nil => rfl
  | cons y r ih =>
    rw [List.map_cons]
    show (match strOf (D.str y), strsOf (r.map D.str) with | some a, some r => some (a :: r) | _, _ => none) = _
    rw [ih]
    rfl
theorem okM_join {a : Str} {ys : List Str} : okM (tJoin (.str a) [.lst (ys.map .str)]) P = (((ys.map (·.length)).sum + ys.length * a.length ≤ 16777216 ∧ (Txt.join a ys).length ≤ sizeLine) ∧ P (.str (Txt.join a ys))) := by
  unfold tJoin
  simp only [strsOf_map]
  by_cases h : (ys.map (·.length)).sum + ys.length * a.length ≤ 16777216 ∧ (Txt.join a ys).length ≤ sizeLine
  · simp only [if_pos h]
    exact propext ⟨fun z => ⟨h, z⟩, And.right⟩
  · simp only [if_neg h, h, false_and]; rfl
theorem okM_join1 {a x : Str} : okM (tJoin (.str a) [.lst [.str x]]) P = ((([x].map (·.length)).sum + [x].length * a.length ≤ 16777216 ∧ (Txt.join a [x]).length ≤ sizeLine) ∧ P (.str (Txt.join a [x]))) := okM_join (ys := [x])
theorem wE_joined {ms : List ME} : wE (mJoined ms) w S QW X = okR (joinD ms Str.empty w S) (fun out S1 => QW (.d (.str out)) S1) X := okR_bind
theorem ok_joinD_nil {acc : Str} {Q : Str → List C → Prop} : okR (joinD [] acc w S) Q X = Q acc S := nrfl rfl
theorem ok_joinD_cons {m : ME} {ms : List ME} {acc : Str} {Q : Str → List C → Prop} : okR (joinD (m :: ms) acc w S) Q X = wE m w S (fun x S1 => match x with
    | .d (.str y) => (acc ++ y).length ≤ sizeLine ∧ okR (joinD ms (acc ++ y) w S1) Q X
    | _ => False) X := by
  show okR ((m w S).bind _) Q X = _
  rw [okR_bind]
  unfold wE
  congr
  funext x S1
  cases x with
  | l n => rfl
  | d d =>
    cases d with
    | str y => by_cases h : (acc ++ y).length ≤ sizeLine <;> simp [h, okR]
    | _ => rfl
theorem ok_fmt_i {i : Int} : okR (fmtO (.d (.int i)) S) QW X = ((i.natAbs.log2 < 1920 ∧ (toString i : Str).length ≤ sizeLine) ∧ QW (.d (.str (toString i))) S) := by
  unfold fmtO
  simp only [vw]
  by_cases h : i.natAbs.log2 < 1920 ∧ (toString i : Str).length ≤ sizeLine
  · simp only [if_pos h]
    exact propext ⟨fun z => ⟨h, z⟩, And.right⟩
  · simp only [if_neg h, h, false_and]; rfl
theorem ok_fmt_s {y : Str} : okR (fmtO (.d (.str y)) S) QW X = QW (.d (.str y)) S := nrfl rfl
theorem wE_fmt {a : ME} : wE (mFmt a) w S QW X = wE a w S (fun x S1 => okR (fmtO x S1) QW X) X := wE_un
theorem wS_raise {c : Str} {f : List D → Option (List Str × List D)} {m : MA} : wS (sRaise c f m) w S K = wE m w S (fun xs S1 => okM (pures xs) fun ds => ds.length ≤ 1000 ∧ okM (f ds) fun p => K (.exc ⟨c, p.1, p.2⟩ w S1)) (fun x S1 => K (.exc x w S1)) := by
  show okO ((m w S).stm w _) K = _
  rw [K_stm]
  unfold wE
  congr
  funext xs S1
  cases pures xs with
  | none => rfl
  | some ds =>
    by_cases h : ds.length ≤ 1000
    · simp only [if_pos h, okM_some, h, true_and]
      cases f ds with
      | none => rfl
      | some p => rfl
    · simp only [if_neg h, okM_some, h, false_and]; rfl
theorem wS_try {b : MS} {hs : List Hd} : wS (sTry b hs) w S K = wS b w S (fun o => match o with
    | .exc x w1 S1 => okO (hdl hs x w1 S1) K
    | o => K o) := by
  unfold wS sTry
  cases b w S <;> rfl
theorem wS_par {i j : Nat} {m : MA} : wS (sPar i j m) w S K = wE m w S (fun xs S1 => match xs with
    | [x, y] => K (.nx ((w.set i (some x)).set j (some y)) S1)
    | _ => False) (fun x S1 => K (.exc x w S1)) := by
  show okO ((m w S).stm w _) K = _
  rw [K_stm]
  unfold wE
  congr
  funext xs S1
  match xs with
  | [] => rfl
  | [_] => rfl
  | [_, _] => rfl
  | _ :: _ :: _ :: _ => rfl
theorem wE_chain3 {f1 f2 f3 : D → D → Option D} {a b c d : ME} : wE (mChain3 f1 f2 f3 a b c d) w S QW X = wE a w S (fun x S1 => wE b w S1 (fun y S2 => okR (o2 f1 x y S2) (fun z S3 => okM (blW z) fun k => (k = true → wE c w S3 (fun v S4 => okR (o2 f2 y v S4) (fun z2 S5 => okM (blW z2) fun k2 => (k2 = true → wE d w S5 (fun u S6 => okR (o2 f3 v u S6) QW X) X) ∧ (k2 = false → QW (.d (.bl false)) S5)) X) X) ∧ (k = false → QW (.d (.bl false)) S3)) X) X) X := by
  unfold wE mChain3
  rw [okR_bind]
  congr
  funext x S1
  rw [okR_bind]
  congr
  funext y S2
  rw [okR_bind]
  congr
  funext z S3
  cases blW z with
  | none => rfl
  | some k =>
    cases k with
    | false => simp [okM, okR]
    | true =>
      simp only [okM, true_implies, reduceCtorEq, false_implies, and_true]
      rw [okR_bind]
      congr
      funext v S4
      rw [okR_bind]
      congr
      funext z2 S5
      cases blW z2 with
      | none => rfl
      | some k2 =>
        cases k2 with
        | false => simp [okM, okR]
        | true =>
          simp only [okM, true_implies, reduceCtorEq, false_implies, and_true]
          exact okR_bind
theorem lcDX_inv {t : MG} {tt : MT} {te : ME} {Q : List D → List C → Prop} (I : Nat → List D → List C → Prop) : ∀ (ds : List D) (k : Nat) (acc : List D) (S : List C), I k acc S →
    (∀ i d acc S, ds[i]? = some d → I (k + i) acc S → okR (t (.d d) w S) (fun w1 S1 => wE tt w1 S1 (fun b S2 => (b = true → wE te w1 S2 (fun y S3 => ∃ z, y = .d z ∧ acc.length < sizeLine ∧ I (k + i + 1) (acc ++ [z]) S3) X) ∧ (b = false → I (k + i + 1) acc S2)) noX) noX) →
    (∀ acc S, I (k + ds.length) acc S → Q acc S) → okR (lcDX t tt te ds acc w S) Q X
  | [], k, acc, S, h0, _, done => done acc S h0
  | d :: ds, k, acc, S, h0, step, done => by
    have h1 := step 0 d acc S rfl h0
    have next : ∀ acc' S', I (k + 0 + 1) acc' S' → okR (lcDX t tt te ds acc' w S') Q X := fun acc' S' h => lcDX_inv I ds (k + 1) acc' S' h (fun i d acc S hd hi => by
        have z := step (i + 1) d acc S hd (by rw [show k + (i + 1) = k + 1 + i by omega]; exact hi)
        rw [show k + (i + 1) + 1 = k + 1 + i + 1 by omega] at z
        exact z) (fun w S hi => done w S (by rw [List.length_cons, show k + (ds.length + 1) = k + 1 + ds.length by omega]; exact hi))
    show okR ((t (.d d) w S).nox.bind _) Q X
    rw [okR_bind, okR_nox]
    refine okR_mono h1 (fun w1 S1 h2 => ?_) fun _ _ z => z.elim
    rw [okR_bind, okR_nox]
    refine okR_mono h2 (fun b S2 h3 => ?_) fun _ _ z => z.elim
    cases b with
    | false => exact next _ _ (h3.2 rfl)
    | true =>
      simp only [if_true]
      rw [okR_bind]
      refine okR_mono (h3.1 rfl) (fun y S3 ⟨z, e, hz, h4⟩ => ?_) fun _ _ z => z
      subst e
      simp only [if_pos hz]
      exact next _ _ h4
theorem lcX_inv {mi : MI} {vs : List Nat} {t : MG} {tt : MT} {te : ME} {Q : W → List C → Prop} (h : wE mi w S (fun ds S1 => okR (lcDX t tt te ds [] (forget vs w) S1) (fun ys S2 => Q (.d (.lst ys)) S2) X) X) : wE (mLcX mi vs t tt te) w S Q X := by
  unfold wE mLcX at *
  rw [okR_bind]
  refine okR_mono h (fun ds S1 h1 => ?_) fun _ _ z => z
  rw [okR_bind]
  exact h1
theorem isi_is {x : Str} : isiD "int" (.str x) = some (.bl false) := nrfl (congrArg (fun b => some (D.bl b)) (show isTy "int" "str" = false from by decide))
theorem isi_st {x : Str} : isiD "tuple" (.str x) = some (.bl false) := nrfl (congrArg (fun b => some (D.bl b)) (show isTy "tuple" "str" = false from by decide))
theorem isi_it {i : Int} : isiD "tuple" (.int i) = some (.bl false) := nrfl (congrArg (fun b => some (D.bl b)) (show isTy "tuple" "int" = false from by decide))
theorem isi_bt {k : Bool} : isiD "tuple" (.bl k) = some (.bl false) := nrfl (congrArg (fun b => some (D.bl b)) (show isTy "tuple" "bool" = false from by decide))
theorem isi_ibs {i : Int} : isiD "str" (.int i) = some (.bl false) := nrfl (congrArg (fun b => some (D.bl b)) (show isTy "str" "int" = false from by decide))
theorem is_in {i : Int} : cmpIs (.int i) .non = some (.bl false) := nrfl rfl
theorem is_ib {i : Int} {b : Bool} : cmpIs (.int i) (.bl b) = some (.bl false) := nrfl rfl
theorem is_sn {x : Str} : cmpIs (.str x) .non = some (.bl false) := nrfl rfl
theorem is_sb {x : Str} {b : Bool} : cmpIs (.str x) (.bl b) = some (.bl false) := nrfl rfl
theorem is_tn {xs : List D} : cmpIs (.tup xs) .non = some (.bl false) := nrfl rfl
theorem is_nn : cmpIs .non .non = some (.bl true) := nrfl rfl
theorem is_bn {b : Bool} : cmpIs (.bl b) .non = some (.bl false) := nrfl rfl
theorem is_tt : cmpIs (.bl true) (.bl true) = some (.bl true) := nrfl rfl
theorem is_ff : cmpIs (.bl false) (.bl false) = some (.bl true) := nrfl rfl
theorem is_tf : cmpIs (.bl true) (.bl false) = some (.bl false) := nrfl rfl
theorem is_ft : cmpIs (.bl false) (.bl true) = some (.bl false) := nrfl rfl
theorem isn_tn {xs : List D} : cmpIsNot (.tup xs) .non = some (.bl true) := nrfl rfl
theorem isn_nn : cmpIsNot .non .non = some (.bl false) := nrfl rfl
theorem sl_s {lo hi : Option Int} {x : Str} : slD lo hi (.str x) = some (.str (cutS x lo hi)) := nrfl rfl
theorem ix_s {x : Str} {i : Int} : ixD (.str x) (.int i) = (atI x.cps.toList i).map fun c => .str (chr1 c) := nrfl rfl
theorem tuple_t {xs : List D} : tupleF [.tup xs] = some (.tup xs) := nrfl rfl
end
end Mi

namespace Mi
open PySem PySem.Spec PyProof.Rows L2
local macro_rules | `(tactic| walk_at "ev") => `(tactic| try simp only [int2_i, int2_b, okM_int2, okM_str, ok_oM, mtOk_sd, tB_s, okM_split, okM_part, okM_join, okM_join1, wE_joined, ok_joinD_nil, ok_joinD_cons, ok_fmt_i, ok_fmt_s, wE_fmt, wS_raise, wS_try, wS_par, wE_chain3, isi_is, isi_st, isi_it, isi_bt, isi_ibs, is_in, is_ib, is_sn, is_sb, is_tn, is_nn, is_bn, is_tt, is_ff, is_tf, is_ft, isn_tn, isn_nn, sl_s, ix_s, tuple_t, wS_seq, seqK_nx, seqK_rt, seqK_bk, seqK_ct, seqK_exc, loopK_nx, loopK_ct, loopK_bk, loopK_rt, loopK_exc, wE_yes, wS_nil, wS_ret, wS_retN, wS_expr, wS_if, wS_set, wS_brk, wS_cnt, wS_frz, wS_asg, wS_aug, wS_never, wS_for, wE_var, wE_c, wE_un, wE_bin, ok_ans, ok_o1, ok_o2, ok_ansT, okM_some, okM_none, okM_bind, okM_map, okM_ite, wE_tru, wE_mB, blW_bl, wE_andT, wE_orT, wE_notT, wE_and, wE_or, wE_not, wE_if, wE_chain, wE_nil, wE_cons, wE_fn, wE_tup, wE_lst, wE_new, ok_tup, ok_lst, ok_new, wE_sl, wE_noPart, wE_part, wE_mth, ok_append, ok_extend, wE_items, wE_rng1, wE_rng2, wE_zip, wE_callP, wE_callS, okP_runP, okR_runS, okR_ok, okR_exc, okR_bad, okP_ok, ok_gSet, ok_gSub, ok_gSeq, ok_gSeqL, ok_gAll_nil, ok_gAll_cons, vw_d, vw_l, okL_s, vws, pures, addD_i, addD_s, addD_l, addD_t, iaddD_i, subD_i, mulD_i, fdivD_i, modD_i, powD_i, negD_i, lt_i, le_i, gt_i, ge_i, eq_i, ne_i, eq_s, ne_s, eq_nl, ne_nl, truD_bl, truD_int, truD_lst, truD_tup, truD_str, truD_non, len_s, len_t, len_l, len_f, int_i, int_b, max2_i, min2_i, tuple_l, intOf_i, isi_ii, isi_bi, isi_tt, isi_ss, isi_ll, mtOk, cellOf, setItem, frzW, ix_t, ix_l, ix_f, sl_t, sl_l, atI_n, atI_0, atI_1, atI_2, atI_3, atI_4, atI_5, atI_6, atI_neg1, ixN_20, ixN_21, cutR, ent, forget, List.map_cons, List.map_nil, List.cons_append, List.nil_append, List.append_nil, List.length_cons, List.length_nil, List.replicate, List.getElem?_cons_zero, List.getElem?_cons_succ, List.getElem?_nil, List.set_cons_zero, List.set_cons_succ, List.set_nil, List.take_succ_cons, List.take_zero, List.take_nil, Option.bind_some, Option.bind_none, id, Nat.reduceAdd, Nat.reduceSub, Nat.reduceEqDiff, decide_eq_true_eq, decide_eq_false_iff_not, Bool.not_eq_true', Bool.not_eq_false', Bool.not_true, Bool.not_false, forall_eq', true_implies, false_implies, implies_true, and_true, true_and, and_self, reduceCtorEq, beq_self_eq_true, List.map_append, getLast?_of, List.isEmpty_nil, List.isEmpty_cons, Bool.false_eq_true, Bool.true_eq_false, forall_const, Nat.le_refl, eq_self, decide_true, decide_false, if_true, if_false, Int.not_lt, Int.not_le])
namespace Lib
noncomputable abbrev m_u_law_cell : MS := sSeq (sIf (mB (mBin (o2 cmpLt) (mVar 1) (mFn lenF (mCons (mVar 0) (mNil))))) (sRet (mBin (o2 ixD) (mVar 0) (mVar 1))) (sNil)) (sRet (mC (.int 0)))
noncomputable def F_u_law_cell := runP 2 2 m_u_law_cell
noncomputable abbrev m_u_law_digits : MS := sSeq (sSet 3 (mNew (mNil))) (sSeq (sFor (mRng2 (mCons (mVar 1) (mCons (mVar 2) (mNil)))) (gSet 4) [5, 4, 7, 6] (sSeq (sSet 5 (mCallP F_u_law_cell (mCons (mVar 0) (mCons (mVar 4) (mNil))))) (sSeq (sIf (mB (mBin (o2 cmpLt) (mVar 5) (mC (.int 0)))) (sSet 5 (mBin (o2 subD) (mC (.int 1)) (mBin (o2 mulD) (mC (.int 2)) (mVar 5)))) (sNil)) (sSeq (sIf (mB (mBin (o2 cmpGt) (mFn lenF (mCons (mVar 3) (mNil))) (mC (.int 1500)))) (sBreak) (sNil)) (sIf (mB (mBin (o2 cmpGe) (mVar 5) (mBin (o2 powD) (mC (.int 10)) (mC (.int 18))))) (sFor (mRng1 (mCons (mC (.int 60)) (mNil))) (gSet 6) [6] (sIf (mB (mBin (o2 cmpGt) (mVar 5) (mC (.int 0)))) (sSeq (sExpr (mMth "list" appendO (mVar 3) (mCons (mBin (o2 modD) (mFn int2F (mCons (mVar 5) (mNil))) (mC (.int 1000))) (mNil)))) (sSet 5 (mBin (o2 fdivD) (mVar 5) (mC (.int 1000))))) (sNil))) (sSeq (sSet 7 (mBin (o2 modD) (mFn int2F (mCons (mBin (o2 addD) (mBin (o2 addD) (mBin (o2 mulD) (mVar 5) (mC (.int 48271))) (mBin (o2 mulD) (mVar 4) (mC (.int 69621)))) (mC (.int 11))) (mNil))) (mC (.int 2147483647)))) (sFor (mRng1 (mCons (mC (.int 12)) (mNil))) (gSet 6) [6] (sSeq (sSet 7 (mBin (o2 modD) (mFn int2F (mCons (mBin (o2 addD) (mBin (o2 addD) (mBin (o2 mulD) (mVar 7) (mC (.int 16807))) (mBin (o2 mulD) (mC (.int 7)) (mVar 6))) (mC (.int 1))) (mNil))) (mC (.int 2147483647)))) (sExpr (mMth "list" appendO (mVar 3) (mCons (mBin (o2 modD) (mFn int2F (mCons (mBin (o2 fdivD) (mVar 7) (mC (.int 997))) (mNil))) (mC (.int 1000))) (mNil)))))))))))) (sSeq (sFrz 3) (sRet (mVar 3))))
noncomputable def F_u_law_digits := runP 3 8 m_u_law_digits
noncomputable abbrev m_u_law_draw : MS := sSeq (sSet 2 (mBin (o2 ixD) (mVar 0) (mC (.int 1)))) (sSeq (sAsg (mBin (o2 addD) (mVar 2) (mC (.int 1))) (gSub (mVar 0) (mC (.int 1)))) (sSeq (sIf (mB (mBin (o2 cmpLt) (mVar 2) (mFn lenF (mCons (mBin (o2 ixD) (mVar 0) (mC (.int 0))) (mNil))))) (sRet (mBin (o2 modD) (mFn int2F (mCons (mBin (o2 ixD) (mBin (o2 ixD) (mVar 0) (mC (.int 0))) (mVar 2)) (mNil))) (mVar 1))) (sNil)) (sRet (mBin (o2 modD) (mFn int2F (mCons (mBin (o2 mulD) (mVar 2) (mC (.int 7))) (mNil))) (mVar 1)))))
noncomputable def F_u_law_draw := runS 2 3 m_u_law_draw
noncomputable abbrev m_u_law_pick : MS := sRet (mBin (o2 ixD) (mVar 1) (mBin (o2 modD) (mFn int2F (mCons (mCallS F_u_law_draw (mCons (mVar 0) (mCons (mC (.int 900)) (mNil)))) (mNil))) (mFn lenF (mCons (mVar 1) (mNil)))))
noncomputable def F_u_law_pick := runS 2 2 m_u_law_pick
noncomputable abbrev m_u_law_some : MS := sSeq (sSet 2 (mCallS F_u_law_draw (mCons (mVar 0) (mCons (mC (.int 1000)) (mNil))))) (sSeq (sSet 2 (mBin (o2 addD) (mBin (o2 mulD) (mVar 2) (mC (.int 1000))) (mCallS F_u_law_draw (mCons (mVar 0) (mCons (mC (.int 1000)) (mNil)))))) (sRet (mBin (o2 modD) (mFn int2F (mCons (mBin (o2 addD) (mBin (o2 mulD) (mVar 2) (mC (.int 1000))) (mCallS F_u_law_draw (mCons (mVar 0) (mCons (mC (.int 1000)) (mNil))))) (mNil))) (mVar 1))))
noncomputable def F_u_law_some := runS 2 3 m_u_law_some
/-- the box: the figures, the place -/
def bx (is : List Int) (at' : Nat) : C := .lst [.lst (is.map .int), .int at']
theorem draw_ok (is : List Int) (n : Nat) (many : Int) (hm : 0 < many) (T : List C) : okR (F_u_law_draw [.l 0, .d (.int many)] (bx is n :: T)) (fun a S => ∃ r : Int, (0 ≤ r ∧ r < many) ∧ a = .d (.int r) ∧ S = bx is (n + 1) :: T) noX := by
  unfold F_u_law_draw m_u_law_draw bx
  walk_at "ev"
  refine ⟨fun h => ?_, fun h => ⟨.inr ⟨by decide, by decide⟩, hm, _, ⟨Int.emod_nonneg _ (by omega), Int.emod_lt_of_pos _ hm⟩, rfl, ?_⟩⟩
  · have hl : n < is.length := by rw [List.length_map] at h; omega
    rw [List.getElem?_map, List.getElem?_eq_getElem hl]
    simp only [Option.map_some]
    walk_at "ev"
    exact ⟨hm, _, ⟨Int.emod_nonneg _ (by omega), Int.emod_lt_of_pos _ hm⟩, rfl, by rw [List.take_length]; rfl⟩
  · rw [List.take_length]; rfl
theorem pick_ok (is : List Int) (n : Nat) (xs : List D) (h0 : 0 < xs.length) (T : List C) : okR (F_u_law_pick [.l 0, .d (.lst xs)] (bx is n :: T)) (fun a S => ∃ x ∈ xs, a = .d x ∧ S = bx is (n + 1) :: T) noX := by
  unfold F_u_law_pick m_u_law_pick
  walk_at "ev"
  refine okR_by (draw_ok is n 900 (by decide) T) fun a S ⟨r, hr, e1, e2⟩ => ?_
  subst e1 e2
  walk_at "ev"
  have h1 : (0 : Int) < xs.length := by omega
  have h2 := Int.emod_nonneg r (b := xs.length) (by omega)
  have h3 := Int.emod_lt_of_pos r h1
  rw [atI_in h2 h3]
  walk_at "ev"
  exact ⟨h1, _, List.getElem_mem _, rfl, by rw [List.take_length]⟩
theorem some_ok (is : List Int) (n : Nat) (many : Int) (hm : 0 < many) (T : List C) : okR (F_u_law_some [.l 0, .d (.int many)] (bx is n :: T)) (fun a S => ∃ r : Int, (0 ≤ r ∧ r < many) ∧ a = .d (.int r) ∧ S = bx is (n + 3) :: T) noX := by
  unfold F_u_law_some m_u_law_some
  walk_at "ev"
  refine okR_by (draw_ok is n 1000 (by decide) T) fun a S ⟨r, hr, e1, e2⟩ => ?_
  subst e1 e2
  walk_at "ev"
  refine ⟨.inr ⟨by decide, by decide⟩, okR_by (draw_ok is _ 1000 (by decide) T) fun a S ⟨r2, hr2, e1, e2⟩ => ?_⟩
  subst e1 e2
  walk_at "ev"
  refine ⟨.inr ⟨by decide, by decide⟩, okR_by (draw_ok is _ 1000 (by decide) T) fun a S ⟨r3, hr3, e1, e2⟩ => ?_⟩
  subst e1 e2
  walk_at "ev"
  exact ⟨hm, _, ⟨Int.emod_nonneg _ (by omega), Int.emod_lt_of_pos _ hm⟩, rfl, by rw [List.take_length]⟩
theorem cell_ok (ns : List Int) (k : Nat) : okP (F_u_law_cell [.frz (ns.map .int), .int k]) (fun d => ∃ i : Int, d = .int i) noXP := by
  unfold F_u_law_cell m_u_law_cell
  walk_at "ev"
  refine ⟨fun h => ?_, fun h => ⟨_, rfl⟩⟩
  have hl : k < ns.length := by rw [List.length_map] at h; omega
  rw [List.getElem?_map, List.getElem?_eq_getElem hl]
  exact ⟨_, rfl⟩
theorem digits_ok (ns : List Int) : okP (F_u_law_digits [.frz (ns.map .int), .int 0, .int 63]) (fun d => ∃ is : List Int, d = .lst (is.map .int)) noXP := by
  unfold F_u_law_digits m_u_law_digits
  walk_at "ev"
  refine ⟨Nat.zero_le _, by decide, for_inv (fun i w S => ∃ is : List Int, is.length ≤ 1560 ∧ S = [.lst (is.map .int)] ∧ w = [some (.d (.frz (ns.map .int))), some (.d (.int 0)), some (.d (.int 63)), some (.l 0), none, none, none, none]) ⟨[], by decide, rfl, rfl⟩ (fun i d w S hd ⟨is, hz, e1, e2⟩ => ?_) fun w S ⟨is, hz, e1, e2⟩ => ?_⟩
  · subst e1 e2
    obtain ⟨hi, e⟩ := rangeD_get hd
    rw [Int.zero_add] at e
    subst e
    walk_at "ev"
    refine okP_by (cell_ok ns i) fun d ⟨c, e⟩ => ?_
    subst e
    walk_at "ev"
    refine ⟨fun _ => ⟨.inl ⟨by decide, by decide⟩, ?_⟩, fun _ => ?_⟩
    all_goals
      refine ⟨fun _ => ⟨_, rfl⟩, fun hl => ⟨by decide, fun hc => ⟨by decide, ?_⟩, fun hc => ⟨?_, ?_, by decide, by decide, ?_⟩⟩⟩
      · rw [List.length_map] at hl
        refine for_inv (fun j w S => ∃ (is : List Int) (c : Int), is.length ≤ 1500 + j ∧ S = [.lst (is.map .int)] ∧ w = [some (.d (.frz (ns.map .int))), some (.d (.int 0)), some (.d (.int 63)), some (.l 0), some (.d (.int i)), some (.d (.int c)), none, none]) ⟨is, _, by omega, rfl, rfl⟩ (fun j d w S hd ⟨is, c, hz, e1, e2⟩ => ?_) fun w S ⟨is, c, hz, e1, e2⟩ => ?_
        · subst e1 e2
          have hj := (rangeD_get hd).1
          have hj : j < 60 := hj
          walk_at "ev"
          refine ⟨fun hc => ⟨by decide, ?_, by decide, ?_⟩, fun _ => ⟨is, c, by omega, rfl, rfl⟩⟩
          · rw [List.length_map, sizeLine_eq]; omega
          · exact ⟨is ++ [c % 1000], c / 1000, by rw [List.length_append]; simp; omega, by simp, rfl⟩
        · subst e1 e2
          rw [rangeD_len] at hz
          have hz : is.length ≤ 1500 + 60 := hz
          walk_at "ev"
          first | exact ⟨is, by omega, rfl⟩ | exact ⟨is, by omega, rfl, rfl⟩
      · exact .inr ⟨by decide, by decide⟩
      · exact .inr ⟨by decide, by decide⟩
      · rw [List.length_map] at hl
        refine for_inv (fun j w S => ∃ (is : List Int) (c sd : Int), is.length ≤ 1500 + j ∧ S = [.lst (is.map .int)] ∧ w = [some (.d (.frz (ns.map .int))), some (.d (.int 0)), some (.d (.int 63)), some (.l 0), some (.d (.int i)), some (.d (.int c)), none, some (.d (.int sd))]) ⟨is, _, _, by omega, rfl, rfl⟩ (fun j d w S hd ⟨is, c, sd, hz, e1, e2⟩ => ?_) fun w S ⟨is, c, sd, hz, e1, e2⟩ => ?_
        · subst e1 e2
          obtain ⟨hj, e⟩ := rangeD_get hd
          have hj : j < 12 := hj
          subst e
          walk_at "ev"
          refine ⟨.inr ⟨by decide, by decide⟩, .inl ⟨by decide, by decide⟩, by decide, by decide, by decide, ?_, ?_⟩
          · rw [List.length_map, sizeLine_eq]; omega
          · exact ⟨is ++ [_], c, _, by rw [List.length_append]; simp; omega, by rw [List.map_append]; rfl, rfl⟩
        · subst e1 e2
          rw [rangeD_len] at hz
          have hz : is.length ≤ 1500 + 12 := hz
          walk_at "ev"
          first | exact ⟨is, by omega, rfl⟩ | exact ⟨is, by omega, rfl, rfl⟩
  · subst e1 e2
    walk_at "ev"
    exact ⟨is, rfl⟩
end Lib
end Mi

namespace Mi
open PySem PySem.Spec PyProof.Rows L2
/-! ### sorted(tuple) -/
section
variable {prog : Program} {w : World} {A : Around} {E : Value → Shared → Prop} {s : Shared}
/-- the heap behind the gathering of vs -/
def gatherH (h : Heap) (vs : List Value) : Heap := (h.push (seqObj "list" #[] 0)).update h.objs.size (Obj.mapSeq (· ++ vs.toArray))
theorem collect_tup {l : Addr} {vs : List Value} {Q : List Value → Shared → Prop} (hl : s.heap.IsTuple l vs.toArray) (hz : vs.length ≤ sizeLine) (h : Q vs { s with heap := gatherH s.heap vs }) :
    wpAny (model prog w) A (collect (.ref l)) Q E s := by
  obtain ⟨o, ho, hc, n, hd⟩ := id hl
  have k1 : (s.heap.push (seqObj "list" #[] 0)).get? l = some o := Heap.get?_push_of_some _ ho
  have k2 : (s.heap.push (seqObj "list" #[] 0)).get? s.heap.objs.size = some (seqObj "list" #[] 0) := Heap.get?_push_size _ rfl
  have fit : ((#[] : Array Value) ++ vs.toArray).size ≤ sizeLine + 1 := by simp; omega
  unfold collect
  refine wpAny_bind (wpAny_runValue (codeAny_builtin entry_proto_collect' ?_))
  change wpAny _ _ (newList [] >>= fun m => again (.builtin "list.__iadd__" ⟨[m, .ref l], []⟩)) _ _ s
  refine wpAny_bind (wpAny_newList (wpAny_pure ⟨Code.quiet_builtin _ (by decide +kernel), ?_⟩))
  refine codeAny_builtin entry_list_iadd' ?_
  change wpAny _ _ (Builtin.List.listExtendWith (.ref s.heap.objs.size) (.ref l) (.ref s.heap.objs.size)) _ _ { s with heap := s.heap.push (seqObj "list" #[] 0) }
  unfold Builtin.List.listExtendWith
  refine wpAny_bind (wpAny_typeOf (T := "tuple") ⟨o, k1, hc⟩ ?_)
  rw [if_pos (by simp)]
  refine wpAny_bind (listItems_at k1 hd (wpAny_bind (listItems_at k2 rfl ?_)))
  rw [if_neg (by simp)]
  refine wpAny_bind (listUpdate_at k2 rfl (wpAny_pure ?_) (Nat.zero_le _) fit)
  change wpAny (model prog w) A (load s.heap.objs.size >>= _) Q E { s with heap := gatherH s.heap vs }
  refine wpAny_bind (wpAny_load (get?_update_seq k2 _) ?_)
  have e : ((#[] : Array Value) ++ vs.toArray).toList = vs := by simp
  change wpAny _ _ (pure ((#[] : Array Value) ++ vs.toArray).toList) Q E _
  rw [e]
  exact wpAny_pure h
open SrtO Srt in
theorem sorted_ordT {l : Addr} {vs : List Value} {ltv : Value → Value → Bool} {Q : Value → Shared → Prop} (O : Swo ltv) (hl : s.heap.IsTuple l vs.toArray) (hz : vs.length ≤ sizeLine)
    (hS : 2 ≤ vs.length → ∀ (h₁ : Heap) (a : Addr), h₁.get? a = some (seqObj "list" vs.toArray 0) → (∀ b o, s.heap.get? b = some o → b ≠ a ∧ h₁.get? b = some o) → SortableO prog w A.in1.in1 { s with heap := h₁ } a vs ltv)
    (h : ∀ out : List Value, Srtd ltv out → Stb ltv out vs → Q (.ref (s.heap.objs.size + 1)) { s with heap := sortedAll s.heap vs out.toArray }) :
    wpAny (model prog w) A (call (.builtin "sorted") [.ref l]) Q E s := by
  refine Calls.call_function_entry kind_sorted plain_sorted entry_sorted (args_sorted1 _) ?_
  unfold Builtin.«sorted»
  refine wpAny_bind (m := checkCount "sorted" 1 1 _) (wpAny_pure ?_)
  refine wpAny_bind (collect_tup hl hz (wpAny_bind (wpAny_newList ?_ hz)))
  have n1 : (gatherH s.heap vs).objs.size = s.heap.objs.size + 1 := by
    unfold gatherH
    rw [Heap.size_update, size_push']
  have n2 : ((gatherH s.heap vs).push (seqObj "list" vs.toArray 0)).get? (s.heap.objs.size + 1) = some (seqObj "list" vs.toArray 0) := by
    rw [← n1]
    exact Heap.get?_push_size _ rfl
  have kp : ∀ b o, s.heap.get? b = some o → b ≠ s.heap.objs.size + 1 ∧ ((gatherH s.heap vs).push (seqObj "list" vs.toArray 0)).get? b = some o := fun b o q => by
    have hb := Heap.lt_size q
    refine ⟨Nat.ne_of_lt (Nat.lt_succ_of_lt hb), Heap.get?_push_of_some _ ?_⟩
    unfold gatherH
    rw [Heap.get?_update_ne _ _ _ _ (Nat.ne_of_lt hb)]
    exact Heap.get?_push_of_some _ q
  change wpAny _ _ _ _ _ { s with heap := (gatherH s.heap vs).push (seqObj "list" vs.toArray 0) }
  rw [n1]
  refine wpAny_bind (wpAny_holding (wpAny_call_entry slot_list_sort ⟨_, n2, rfl⟩ entry_list_sort (list_sort_ord O n2 hz (fun z => hS z _ _ n2 kp) fun out hs hb => ⟨_, rfl, ?_⟩) (args_list_sort _)))
  exact wpAny_pure ⟨_, rfl, h out hs hb⟩
open SrtO Srt in
theorem sorted_pairsT {l : Addr} {vs : List Value} {k : Value → Int × Int} {Q : Value → Shared → Prop} (hl : s.heap.IsTuple l vs.toArray) (hz : vs.length ≤ sizeLine) (hp : ∀ v ∈ vs, IsPair s.heap v (k v).1 (k v).2)
    (h : ∀ (h' : Heap) (d : Addr) (out : List Value), Srtd (fun v u => lexB (k v) (k u)) out → Stb (fun v u => lexB (k v) (k u)) out vs → (∀ b o, s.heap.get? b = some o → h'.get? b = some o) → s.heap.objs.size ≤ d → (∃ n, h'.get? d = some (seqObj "list" out.toArray n)) → Q (.ref d) { s with heap := h' }) :
    wpAny (model prog w) A (call (.builtin "sorted") [.ref l]) Q E s := by
  refine sorted_ordT (swo_lex k) hl hz (fun z h₁ a ha kk => pairs_sortableO (s := { s with heap := h₁ }) (by omega) (fun v hm => (hp v hm).keeps fun b o e _ => (kk b o e).2) fun o e c => ?_) fun out hs hb => h _ _ out hs hb (fun b o e => sortedAll_old e) (Nat.le_succ _) (sortedAll_at s.heap vs out.toArray)
  have e' : some o = some (seqObj "list" vs.toArray 0) := e.symm.trans ha
  cases e'
  exact absurd (Value.type.inj c) (by decide)
end
/-- sorted(xs), xs a tuple of pairs of ints -/
def rSortedPT (K : PySem.W.Frag) : List V → Hp → VK → Prop := fun vs H Q => ∃ (a : Addr) (xs : List V) (k : V → Int × Int), vs = [V.ref a] ∧ SqT K H a xs ∧ (∀ x ∈ xs, ∃ t, x = V.ref t ∧ SqT K H t [.int (k x).1, .int (k x).2]) ∧
  ∀ ys p, SrtO.Srtd (ltP k) ys → SrtO.Stb (ltP k) ys xs → H p = none → Q (.ref p) (upd H p (.lst ys))
section
variable {X : Cx} {g : G}
theorem cr_sortedPT : CallR X (.builtin "sorted") (rSortedPT X.K) := by
  intro pins s σ H vs us Q I r h
  obtain ⟨a, xs, k, rfl, hs, hx, q⟩ := h
  obtain ⟨its, rv, ⟨oT, hoT, hcT, nT, hdT⟩, hz⟩ := I.tuple hs
  obtain ⟨u, rfl, ru⟩ := vals1 r
  obtain rfl : u = Value.ref a := ru
  obtain ⟨e1, e2⟩ := refs_back rv fun x m => by
    obtain ⟨t, e, _⟩ := hx x m
    exact ⟨t, e⟩
  refine sorted_pairsT (k := fun u => k (backV u)) ⟨oT, hoT, hcT, nT, hdT⟩ (by rw [← rv.length]; exact hz) (fun v hv => ?_) fun h' d out h1 h2 kp hd hn => ?_
  · obtain ⟨t, rfl⟩ := e2 v hv
    have hm : V.ref t ∈ xs := by rw [e1]; exact List.mem_map.mpr ⟨_, hv, rfl⟩
    obtain ⟨t', e, ht⟩ := hx _ hm
    cases e
    obtain ⟨its2, r2, ⟨o, ho, hc, n, hd⟩, _⟩ := I.tuple ht
    obtain ⟨u1, u2, rfl, ri, rj⟩ := vals2 r2
    obtain ⟨t1, rfl⟩ := ri
    obtain ⟨t2, rfl⟩ := rj
    exact ⟨t, o, t1, t2, n, rfl, ho, hc, hd⟩
  · have h3 : ∀ u ∈ out, ∃ a, u = Value.ref a := fun u hu => e2 u (h2.perm.mem_iff.mp hu)
    obtain ⟨n, hn⟩ := hn
    have hb : SrtO.Stb (ltP k) (out.map backV) xs := by
      rw [e1]
      exact SrtO.Stb.map (ltP_swo k) backV h2
    refine ⟨.ref d, upd H d (.lst (out.map backV)), I.laid (t' := s.toks) kp hd ⟨?_, out, n, vals_back h3, hn⟩, rfl, q _ d (SrtO.srtd_map h1) hb (I.hok.fresh hd)⟩
    rw [hb.len]
    exact hz
/-- .. said of data -/
def rSortedDT (g : G) (X : Cx) : List V → Hp → VK → Prop := fun vs H Q => ∃ (B : Addr → Prop) (a : Addr) (us : List V) (ps : List (Int × Int)), vs = [V.ref a] ∧ SqT X.K H a us ∧ Reps X.K H B (ps.map pairD) us ∧
  ∀ zs p, Reps X.K H B ((ps.mergeSort lexLe).map pairD) zs → H p = none → Q (.ref p) (upd H p (.lst zs))
theorem cr_sortedDT : CallR X (.builtin "sorted") (rSortedDT g X) := by
  intro pins s σ H vs us Q I r h
  obtain ⟨B, a, xs, ps, rfl, ha, hr, q⟩ := h
  have at_ : ∀ x ∈ xs, ∃ p t, x = V.ref t ∧ SqT X.K H t [.int p.1, .int p.2] ∧ Rep X.K H B (pairD p) x := fun x hx => by
    obtain ⟨d, hd, rd⟩ := reps_mem hr hx
    obtain ⟨p, hp, rfl⟩ := List.mem_map.mp hd
    obtain ⟨t, vs, rfl, h1, h2⟩ := Rep.tup_inv rd
    obtain ⟨v1, q1, rfl, r1, r2⟩ := h2.cons_inv
    obtain ⟨v2, q2, rfl, r3, r4⟩ := r2.cons_inv
    rw [r4.nil_inv, r1.int_inv, r3.int_inv] at h1
    exact ⟨p, t, rfl, h1.of, rd⟩
  refine cr_sortedPT pins s σ H [.ref a] us Q I r ⟨a, xs, pairAt X.K H, rfl, ha, fun x hx => ?_, fun ys p hs hb hp => ?_⟩
  · obtain ⟨p, t, rfl, h1, _⟩ := at_ x hx
    exact ⟨t, rfl, by rw [pairAt_ok I h1]; exact h1⟩
  · refine q ys p ?_ hp
    have key : ∀ (l : List V), (∀ x ∈ l, x ∈ xs) → Reps X.K H B ((l.map (pairAt X.K H)).map pairD) l := fun l => by
      induction l with
      | nil => intro _; exact Reps.nil
      | cons x l ih =>
        intro hl
        obtain ⟨p, t, rfl, h1, h2⟩ := at_ x (hl x (by simp))
        exact Reps.cons (by rw [pairAt_ok I h1]; exact h2) (ih fun y hy => hl y (by simp [hy]))
    have e1 : xs.map (pairAt X.K H) = ps := by
      have : ∀ (l : List (Int × Int)) (us : List V), (∀ x ∈ us, x ∈ xs) → Reps X.K H B (l.map pairD) us → us.map (pairAt X.K H) = l := fun l => by
        induction l with
        | nil => intro us _ r; rw [r.nil_inv]; rfl
        | cons p l ih =>
          intro us hu r
          obtain ⟨v, q, rfl, r1, r2⟩ := r.cons_inv
          obtain ⟨t, ws, rfl, h1, h2⟩ := Rep.tup_inv r1
          obtain ⟨v1, q1, rfl, s1, s2⟩ := h2.cons_inv
          obtain ⟨v2, q2, rfl, s3, s4⟩ := s2.cons_inv
          rw [s4.nil_inv, s1.int_inv, s3.int_inv] at h1
          rw [List.map_cons, pairAt_ok I h1.of, ih q (fun x hx => hu x (by simp [hx])) r2]
      exact this ps xs (fun _ h => h) hr
    have e2 : ys.map (pairAt X.K H) = ps.mergeSort lexLe := by
      refine sorted_one lexLe_trans lexLe_total lexLe_anti ?_ ?_
      · have := hb.perm.map (pairAt X.K H)
        rwa [e1] at this
      · rw [List.pairwise_map]
        exact hs.imp fun h => lexB_le.mp h
    rw [← e2]
    exact key ys fun x hx => hb.perm.mem_iff.mp hx
def sorted2F : List D → Option D
  | [.tup xs] => (pairsOf xs).map fun ps => .lst ((ps.mergeSort lexLe).map pairD)
  | ds => sortedF ds
theorem f_sorted2 (hK : g.K = X.K := by rfl) : FR X g (.builtin "sorted") sorted2F := by
  obtain ⟨r0, c0, f0⟩ := f_sorted (X := X) (g := g) hK
  refine ⟨_, c0.or (cr_sortedDT (g := g)), fun ρ S ds c vs H Q l r h q => ?_⟩
  unfold sorted2F at h
  split at h
  · rename_i xs
    obtain ⟨v, rfl, r1⟩ := r.one
    obtain ⟨p, us, rfl, h1, h2⟩ := RepR.tup_inv r1
    cases e : pairsOf xs with
    | none => rw [e] at h; cases h
    | some ps =>
      rw [e] at h
      cases h
      have ex := pairsOf_inv e
      subst ex
      refine .inr ⟨bar g.F ρ, p, us, ps, rfl, hK ▸ h1.of, hK ▸ h2, fun zs p2 rz hp => ?_⟩
      rw [← hK] at rz
      exact q ρ _ _ (ext_new hp) (rl_new l hp) (Rep.lst upd_same (fun z => new_nb l hp z) (Reps.mono ((ext_new hp).ev g.F) _ _ rz))
  · exact .inl (f0 ρ S _ c vs H Q l r h q)
end
end Mi

namespace Mi
open PySem PySem.Spec PyProof.Rows L2
/-! ### {x:04d} -/
section
variable {prog : Program} {w : World} {A : Around} {E : Value → Shared → Prop} {s : Shared}
theorem digs_len {a : Int} (h0 : 0 ≤ a) (h1 : a < 1000000) : (Nat.toDigits 10 a.natAbs).length ≤ 6 := by
  have e := (Nat.length_repr_le_iff (n := a.natAbs) (k := 6) (by decide)).mpr (by omega)
  rwa [← String.length_toList, Nat.toList_repr] at e
open Builtin Builtin.Float in
theorem field_spec {a : Int} {t : Tok} {spec : Str} {f : FormatSpec} {Q : Value → Shared → Prop} (h0 : 0 ≤ a) (h1 : a < 1000000) (hp : parseFormatSpec spec.cps.toList "int" 62 = .ok f) (hne : (spec.length == 0) = false)
    (hasc : ((spec.cps.toList.drop 1).any (· ≥ 128) || (spec.cps.getD 0 0 ≥ 128 && !([60, 62, 61, 94] : List Nat).contains (spec.cps.getD 1 0))) = false) (hg : intSpecGood spec f = true) (hw : f.width.getD 0 ≤ 1000)
    (hsz : spec.length ≤ sizeLine) (h : ∀ t' k, Q (.str (intSpecText f a) t') { s with toks := k }) : wpAny (model prog w) A (formatField (.int a t) spec) Q E s := by
  unfold intSpecGood at hg
  simp only [Bool.and_eq_true] at hg
  obtain ⟨⟨⟨⟨⟨⟨hty, hpr⟩, hz⟩, hal⟩, hw0⟩, hgr⟩, hsg⟩ := hg
  have hty := beq_iff_eq.mp hty
  have hpr := Option.isNone_iff_eq_none.mp hpr
  have hz : f.noNeg0 = false := by simpa using hz
  have hal : f.alt = false := by simpa using hal
  have hgr := Option.isNone_iff_eq_none.mp hgr
  have hsg := Option.isNone_iff_eq_none.mp hsg
  have hd := digs_len h0 h1
  have hlen : (intSpecText f a).length ≤ sizeLine := by
    rw [intSpecText_length a hgr hsg, sizeLine_eq]
    split <;> omega
  have hsm : a.natAbs.log2 < 1920 := by
    by_cases e : a.natAbs = 0
    · rw [e]; decide
    · have := (Nat.log2_lt e).mpr (show a.natAbs < 2 ^ 20 by omega)
      omega
  change wpAny _ _ (holding [.int a t] (pyFormat (.int a t) spec)) Q E s
  refine wpAny_holding ?_
  unfold pyFormat
  refine wpAny_bind (wpAny_mkStr ?_ hsz)
  refine wpAny_bind (m := callSpecial? (.int a t) (Str.ofString "__format__") [.str spec s.toks]) (wpAny_callSpecial?_slot (name := Str.ofString "__format__") (typeIs_int _ a t) slot_int_format ?_)
  refine wpAny_call (codeAny_call_builtin slot_int_format.plain entry_int_format (slot_int_format.check _ _ _ _ _ _ _ _ (typeIs_int _ a t) (args_int_format _ _) ?_))
  unfold Builtin.«int.__format__»
  simp only [selfAndOne, noKeywords, Int.intOfSelf, asInt?, asStr?, List.isEmpty_nil, if_true, pure_bind, bind_pure, bind_assoc, hne, hasc, Bool.false_eq_true, if_false, show (Value.str spec s.toks == Value.none) = false from rfl]
  refine wpAny_bind (wpAny_typeNameOf (T := "str") (typeIs_str _ _ _) (by decide) fun _ => ?_)
  first | refine wpAny_bind (wpAny_typeNameOfCut_int ?_) | refine wpAny_bind (wpAny_typeNameOf_int ?_)
  simp only [hp, hty]
  rw [if_pos (by decide)]
  change wpAny _ _ (if _ then _ else _) _ _ _
  rw [if_neg (by simp [hpr])]
  change wpAny _ _ (if _ then _ else _) _ _ _
  rw [if_neg (by simp [hz])]
  change wpAny _ _ (if _ then _ else _) _ _ _
  rw [if_neg (by decide)]
  change wpAny _ _ (Builtin.overDigitLimit? a >>= _) _ _ _
  refine wpAny_bind (wpAny_of_eq (a := none) (PyProof.Rows.overDigitLimit_small hsm) ?_)
  change wpAny _ _ (if _ then _ else _) _ _ _
  have hw' : ¬ (f.width.getD 0 > 100000) := by omega
  rw [if_neg (by simpa using hw')]
  change wpAny _ _ (retStr _) _ _ _
  unfold retStr
  refine wpAny_bind (wpAny_mkStr (wpAny_pure ?_) ?hs2)
  case hs2 =>
    simp only [hal, Bool.false_eq_true, if_false, show ((10 : Nat) == 10) = true by decide, if_true]
    conv => lhs; arg 1; whnf
    simp only [intSpecText, intField', hgr, hsg, hal, Bool.false_eq_true, if_false, show ((10 : Nat) == 10) = true by decide, if_true] at hlen ⊢
    exact hlen
  dsimp only
  refine wpAny_bind (wpAny_isInstance (typeIs_str _ _ _) isSubtype_str_str (wpAny_pure ?_))
  simp only [hal, Bool.false_eq_true, if_false, show ((10 : Nat) == 10) = true by decide, if_true]
  conv => arg 1; arg 1; whnf
  simp only [intSpecText, intField', hgr, hsg, hal, Bool.false_eq_true, if_false, show ((10 : Nat) == 10) = true by decide, if_true] at h ⊢
  exact h _ _
end
def specB (spec : Str) (n : Nat) : Bool := !(spec.length == 0) && !((spec.cps.toList.drop 1).any (· ≥ 128) || (spec.cps.getD 0 0 ≥ 128 && !([60, 62, 61, 94] : List Nat).contains (spec.cps.getD 1 0))) && decide (spec.length ≤ 100) && decide (n ≤ 1000) &&
  match Builtin.Float.parseFormatSpec spec.cps.toList "int" 62 with
  | .ok f => intSpecGood spec f && (f.fill == 48 && (f.align == 61 && (decide (f.width.getD 0 = n) && (f.grouping.isNone && f.sign.isNone))))
  | .error _ => false
def zpad (n : Nat) (i : Int) : Str := ⟨(List.replicate (n - (Nat.toDigits 10 i.natAbs).length) 48).toArray⟩ ++ Str.ofString (toString i)
def fmtZ (n : Nat) (x : W) (S : List C) : R W := match vw x S with
  | some (.int i) => if 0 ≤ i ∧ i < 1000000 ∧ (zpad n i).length ≤ sizeLine then .ok (.d (.str (zpad n i))) S else .bad
  | _ => .bad
def mFmtZ (n : Nat) (a : ME) : ME := mUn (fmtZ n) a
theorem d_fmtZ {X : Cx} {g : G} {e es : Expr} {me : ME} {sp : Str} {n : Nat} {pos : Pos} (he : DE X g e me) (hs : DE X g es (mC (.str sp))) (hb : specB sp n = true) : DE X g (.FormattedValue e (-1) (some es) pos) (mFmtZ n me) := by
  refine ⟨fun pins s σ H Q I ⟨ρ, S, w, l, sl, h⟩ => ?_⟩
  have h : Run g (rW g) ((me w S).bind (fmtZ n)) ρ σ H Q := h
  refine wpAny_FormattedValue_spec (thn (he.run pins s σ H (fun v H1 => ∃ ρ1 S1 i, v = .int i ∧ 0 ≤ i ∧ i < 1000000 ∧ Rl g.K g.F ρ1 S1 H1 ∧ Slots g.K H1 g.F ρ1 w σ ∧ Run g (rW g) (.ok (.d (.str (zpad n i))) S1) ρ1 σ H1 Q ∧ (zpad n i).length ≤ sizeLine) I ⟨ρ, S, w, l, sl, Run.bnd h fun ρ1 S1 x v H1 e1 l1 r1 h1 => ?_⟩) fun v s1 hv => ?_)
  · unfold fmtZ at h1
    cases ev : vw x S1 with
    | none => rw [ev] at h1; exact h1.elim
    | some d =>
      have rv := vw_ok l1 r1 ev
      cases d with
      | int i =>
        simp only [ev] at h1
        split at h1
        · rename_i hz
          exact ⟨ρ1, S1, i, RepR.int_inv rv, hz.1, hz.2.1, l1, sl.mono e1, h1, hz.2.2⟩
        · exact h1.elim
      | _ => simp only [ev] at h1; exact h1.elim
  · obtain ⟨x, H1, I1, r1, ρ1, S1, i, rfl, h0, h1, l1, s1', hr, hz⟩ := hv
    obtain ⟨t, rfl⟩ := r1
    refine thn (hs.run pins s1 σ H1 (fun v H2 => v = .str sp ∧ ∃ ρ2 S2, Rl g.K g.F ρ2 S2 H2 ∧ Q (.str (zpad n i)) H2) I1 ⟨ρ1, S1, w, l1, s1', fun ρ' H' v ex lx rx => ?_⟩) fun v s2 hv2 => ?_
    · have rx : Rep g.K H' (bar g.F ρ') (.str sp) v := rx
      exact ⟨(RepR.str_inv (RepR.of rx)).1, ρ', S1, lx, hr ρ' H' _ ex lx (Rep.str (K := g.K) (H := H') (B := bar g.F ρ') hz)⟩
    · obtain ⟨y, H2, I2, r2, rfl, ρ2, S2, l2, q⟩ := hv2
      obtain ⟨u, rfl⟩ := r2
      unfold specB at hb
      simp only [Bool.and_eq_true, Bool.not_eq_true', decide_eq_true_eq] at hb
      obtain ⟨⟨⟨⟨b1, b2⟩, b3⟩, b4⟩, b5⟩ := hb
      cases hp : Builtin.Float.parseFormatSpec sp.cps.toList "int" 62 with
      | error m => rw [hp] at b5; cases b5
      | ok f =>
        rw [hp] at b5
        simp only [Bool.and_eq_true, beq_iff_eq, decide_eq_true_eq] at b5
        obtain ⟨c1, c2, c3, c4, c5, c6⟩ := b5
        refine ⟨sp, u, rfl, field_spec h0 h1 hp b1 b2 c1 (by omega) (Nat.le_trans b3 (by rw [sizeLine_eq]; decide)) fun t' k => ?_⟩
        rw [intSpecText_zero (Option.isNone_iff_eq_none.mp c5) (Option.isNone_iff_eq_none.mp c6) c2 c3 h0, c4]
        exact ⟨.str (zpad n i), H2, I2.tok _, ⟨_, rfl⟩, q⟩
theorem spec_04d : specB "04d" 4 = true := by decide +kernel
theorem spec_02d : specB "02d" 2 = true := by decide +kernel
end Mi

namespace Mi
open PySem PySem.Spec PyProof.Rows L2
/-! ### a global tuple of ints -/
def intV : Value → Option Int
  | .int i _ => some i
  | _ => none
/-- the name holds a written tuple of these ints -/
def GTup (K : PySem.W.Frag) (mg : Str → Option Value) (x : Str) (ns : List Int) : Prop := ∃ a, mg x = some (.ref a) ∧ ∃ (o : Obj) (its : Array Value) (n : Nat), K.lookup a = some o ∧ o.cls = .type "tuple" ∧ o.data = .seq its n ∧ its.toList.map intV = ns.map some
theorem vals_ints : ∀ {us : List Value} {ns : List Int}, us.map intV = ns.map some → Vals (ns.map V.int) us
  | [], [], _ => .nil
  | [], _ :: _, h => by cases h
  | _ :: _, [], h => by cases h
  | u :: us, i :: ns, h => by
    rw [List.map_cons, List.map_cons] at h
    injection h with h1 h2
    refine .cons ?_ (vals_ints h2)
    cases u <;> simp only [intV] at h1 <;> cases h1
    exact ⟨_, rfl⟩
theorem sqT_of {K : PySem.W.Frag} {H : Hp} {a : Addr} {o : Obj} {its : Array Value} {n : Nat} {ns : List Int} (hl : K.lookup a = some o) (hc : o.cls = .type "tuple") (hd : o.data = .seq its n) (hv : its.toList.map intV = ns.map some) (hz : ns.length ≤ 1000) : SqT K H a (ns.map V.int) := by
  have hlen : its.size = ns.length := by
    have := congrArg List.length hv
    simpa using this
  exact .inr ⟨o, its, n, hl, hc, hd, by rw [hlen, sizeLine_eq]; omega, vals_ints hv⟩
section
variable {X : Cx} {g : G} {x : Str} {pos : Pos}
theorem d_globT {ns : List Int} (h : GTup X.K X.mg x ns) (hz : ns.length ≤ 1000 := by decide) (hK : g.K = X.K := by rfl) (hg : Gl X x := by rfl) (hd : (x == ("__debug__" : Str)) = false := by decide) : DE X g (.Name x pos) (mC (.tup (ns.map .int))) :=
  let ⟨a, hm, _, _, _, hl, hc, hda, hv⟩ := h
  PEw (pe_glob (v := .ref a) hg hm rfl hd) fun σ H Q ⟨ρ, S, w, l, sl, r⟩ => Run.ok_ (rep := rW g) l (show RepW g.K H g.F ρ (.d (.tup (ns.map .int))) (.ref a) from Rep.tup (K := g.K) (H := H) (B := bar g.F ρ) (.inr (hK ▸ sqT_of hl hc hda hv hz)) (ints_reps ns)) r
end
/-- a, b, c = x, y, z -/
def sPar3 (i j l : Nat) (m : MA) : MS := fun w S => (m w S).stm w fun xs S1 => match xs with
  | [x, y, z] => .nx (((w.set i (some x)).set j (some y)).set l (some z)) S1
  | _ => .bad
section
variable {X : Cx} {g : G} {m : MA}
theorem s_par3 {i j l : Nat} {x y z : Str} {a b c : Expr} {px py pz pt pos : Pos} {kt k2 pt2} (nd : X.N.Nodup) (ha : DA X g [a, b, c] m) (hc : X.calm = true := by rfl) (hi : X.N[i]? = some x := by rfl) (hj : X.N[j]? = some y := by rfl) (hl : X.N[l]? = some z := by rfl) (hij : i ≠ j := by decide) (hil : i ≠ l := by decide) (hjl : j ≠ l := by decide)
    (hx : X.env.scope.names.lookup x = some .local := by rfl) (hy : X.env.scope.names.lookup y = some .local := by rfl) (hz : X.env.scope.names.lookup z = some .local := by rfl)
    (hw : swappedStores [.Tuple [.Name x px, .Name y py, .Name z pz] kt pt] (.Tuple [a, b, c] k2 pt2) X.env = pure (some [x, y, z]) := by rfl)
    (hs : swapsWithSole [.Tuple [.Name x px, .Name y py, .Name z pz] kt pt] (.Tuple [a, b, c] k2 pt2) pos.line X.env = pure false := by rfl) :
    DS X g (.Assign [.Tuple [.Name x px, .Name y py, .Name z pz] kt pt] (.Tuple [a, b, c] k2 pt2) pos) (sPar3 i j l m) := PSw (ps_par3 hc nd hi hj hl hij hil hjl hx hy hz ha hw hs) fun D σ H h => by
  obtain ⟨ρ, S, w, rl, sl, h⟩ := h
  refine ⟨ρ, S, w, rl, sl, RunO.bnd sl h fun ρ1 S1 xs vs H1 e1 l1 r1 h1 => ?_⟩
  match xs, h1, r1 with
  | [], h1, _ => exact h1.elim
  | [_], h1, _ => exact h1.elim
  | [_, _], h1, _ => exact h1.elim
  | _ :: _ :: _ :: _ :: _, h1, _ => exact h1.elim
  | [x, y, z], h1, r1 =>
    obtain ⟨v, q, rfl, r2, u, q2, rfl, r3, t, q3, rfl, r4, rfl⟩ := r1
    exact ⟨v, u, t, rfl, RunO.nx_ l1 ((((sl.mono e1).set r2).set r3).set r4) h1⟩
end
end Mi

namespace Mi
open PySem PySem.Spec PyProof.Rows L2
section
variable {α β : Type} {QW : W → List C → Prop} {X : XP} {w : Lw} {S : List C} {K : KO} {P : D → Prop}
theorem wS_par3 {i j l : Nat} {m : MA} : wS (sPar3 i j l m) w S K = wE m w S (fun xs S1 => match xs with
    | [x, y, z] => K (.nx (((w.set i (some x)).set j (some y)).set l (some z)) S1)
    | _ => False) (fun x S1 => K (.exc x w S1)) := by
  show okO ((m w S).stm w _) K = _
  rw [K_stm]
  unfold wE
  congr
  funext xs S1
  match xs with
  | [] => rfl
  | [_] => rfl
  | [_, _] => rfl
  | [_, _, _] => rfl
  | _ :: _ :: _ :: _ :: _ => rfl
theorem wE_fmtZ {n : Nat} {a : ME} : wE (mFmtZ n a) w S QW X = wE a w S (fun x S1 => okR (fmtZ n x S1) QW X) X := wE_un
theorem ok_fmtZ {n : Nat} {i : Int} : okR (fmtZ n (.d (.int i)) S) QW X = ((0 ≤ i ∧ i < 1000000 ∧ (zpad n i).length ≤ sizeLine) ∧ QW (.d (.str (zpad n i))) S) := by
  unfold fmtZ
  simp only [vw]
  by_cases h : 0 ≤ i ∧ i < 1000000 ∧ (zpad n i).length ≤ sizeLine
  · simp only [if_pos h]
    exact propext ⟨fun z => ⟨h, z⟩, And.right⟩
  · simp only [if_neg h, h, false_and]; rfl
theorem okO_imp {o : O} {K K2 : KO} (h : okO o K2) (q : ∀ o, K2 o → okO o K) : okO o K := by
  cases o with
  | bad => exact h.elim
  | _ => exact q _ h
/-- one statement, then the others -/
theorem wS_cut {a b : MS} {w : Lw} {S : List C} {K : KO} (P : Lw → List C → Prop) (h1 : wS a w S (fun o => ∃ w' S', o = .nx w' S' ∧ P w' S')) (h2 : ∀ w' S', P w' S' → wS b w' S' K) : wS (sSeq a b) w S K := by
  rw [wS_seq]
  unfold wS at h1 ⊢
  refine okO_imp h1 fun o ⟨w', S', e, p⟩ => ?_
  subst e
  exact h2 w' S' p
theorem wS_keep {a b : MS} {w : Lw} {S : List C} {K : KO} (h1 : wS a w S (fun o => o = .nx w S)) (h2 : wS b w S K) : wS (sSeq a b) w S K :=
  wS_cut (fun w' S' => w' = w ∧ S' = S) (by
    unfold wS at h1 ⊢
    refine okO_imp h1 fun o e => ?_
    subst e
    exact ⟨w, S, rfl, rfl, rfl⟩) (fun w' S' ⟨e1, e2⟩ => by subst e1 e2; exact h2)
end
def iOf : D → Int
  | .int i => i
  | _ => 0
theorem intsOf_map : ∀ l : List Int, intsOf (l.map D.int) = some l
  | [] => rfl
  | a :: r => by
    rw [List.map_cons]
    show (match intOf (D.int a), intsOf (r.map D.int) with | some i, some r => some (i :: r) | _, _ => none) = _
    rw [intsOf_map r]
    rfl
theorem sum_int (l : List Int) : sumF [.lst (l.map .int)] = some (.int l.sum) := by
  unfold sumF
  simp only [intsOf_map]
  rfl
/-- a wrapper that is not unfolded while terms are elaborated -/
structure Is (r : RP) (d : D) : Prop where
  h : okP r (· = d) noXP
theorem rangeD_mem {lo : Int} {n : Nat} {d : D} (h : d ∈ rangeD lo n) : ∃ k : Nat, k < n ∧ d = .int (lo + k) := by
  obtain ⟨k, hk, e⟩ := List.mem_map.mp h
  exact ⟨k, List.mem_range.mp hk, e.symm⟩
theorem z2 : 2 ≤ sizeLine := by rw [sizeLine_eq]; decide
theorem z_lt {n : Nat} (h : n ≤ 10000) : n < sizeLine := by rw [sizeLine_eq]; omega
theorem z_le {n : Nat} (h : n ≤ 10000) : n ≤ sizeLine := by rw [sizeLine_eq]; omega
end Mi

namespace Mi
open PySem PySem.Spec PyProof.Rows L2
/-! ### e.replace of written texts: a token is out in the body of a def that has a parameter -/
def replD (y z : Str) : D → Option D
  | .str x => if x.length + (x.length + 1) * z.length ≤ 16777216 then some (.str (Txt.replace x y z)) else none
  | _ => none
abbrev DET (X : Cx) (g : G) (e : Expr) (m : ME) : Prop := PET X e (LE g m)
abbrev DST (X : Cx) (g : G) (s : Stmt) (m : MS) : Prop := PST X s (LS g m)
abbrev DSsT (X : Cx) (g : G) (s : List Stmt) (m : MS) : Prop := PSsT X s (LS g m)
theorem PETw {X : Cx} {e : Expr} {t t' : TE} (h : PET X e t) (i : ∀ σ H Q, t' σ H Q → t σ H Q) : PET X e t' := fun pins s σ H Q h0 I q => h pins s σ H Q h0 I (i σ H Q q)
theorem PSTw {X : Cx} {e : Stmt} {t t' : TS} (h : PST X e t) (i : ∀ D σ H, t' D σ H → t D σ H) : PST X e t' := fun pins s σ H D h0 I q => h pins s σ H D h0 I (i D σ H q)
theorem PSsTw {X : Cx} {e : List Stmt} {t t' : TS} (h : PSsT X e t) (i : ∀ D σ H, t' D σ H → t D σ H) : PSsT X e t' := fun pins s σ H D h0 I q => h pins s σ H D h0 I (i D σ H q)
theorem pst_set {X : Cx} {i : Nat} {x : Str} {e : Expr} {te : TE} {pos pos' : Pos} (hN : X.N.Nodup) (hi : X.N[i]? = some x) (hx : Loc X.env.scope x) (he : PET X e te) (hs : swapsWith e (some (.Name x pos')) pos.line X.env = pure false := by rfl) (hf : X.fn x = true ∨ X.env.scope.names.lookup x = some .local := by first | exact .inl rfl | exact .inr rfl | assumption) :
    PST X (.Assign [.Name x pos'] e pos) (tAsg te (gName i)) := by
  intro pins s σ H D h0 I h
  refine wpAny_Assign_Name (thn (he pins s σ H _ h0 I h) fun v s1 ⟨y, H1, I1, r1, q1⟩ => ?_) hs
  exact store_ok I1 hN hi hx r1 (fun s2 I2 => ⟨_, H1, I2, q1⟩) hf
section
variable {X : Cx} {g : G} {st : Stmt} {rest sa sb : List Stmt} {m m' : MS} {a b e c o : Expr} {ma mb me mo : ME} {mt : MT} {pos apos : Pos} {y z : Str} {j k : Nat} {c0 c1 : Pos}
theorem eT_of (h : DE X g e me) : DET X g e me := CwR.PET.of h
theorem sT_of (h : DS X g st m) : DST X g st m := PST.of h
theorem repl_q {ρ : List (Option Addr)} {S : List C} {d r : D} {v : V} {H : Hp} {Q : VK} (l : Rl g.K g.F ρ S H) (rd : RepR g.K H (bar g.F ρ) d v) (h : replD y z d = some r) (q : ∀ ρ' H' u, Ext ρ H ρ' H' → Rl g.K g.F ρ' S H' → Rep g.K H' (bar g.F ρ') r u → Q u H') :
    ∃ x, v = .str x ∧ x.length + (x.length + 1) * z.length ≤ 16777216 ∧ Q (.str (Txt.replace x y z)) H := by
  unfold replD at h
  split at h
  · rename_i x
    split at h
    · rename_i hz
      cases h
      exact ⟨x, (RepR.str_inv rd).1, hz, same_q l (.str (by rw [sizeLine_eq]; exact Nat.le_trans (TK.replace_len x y z) hz)) q⟩
    · cases h
  · cases h
theorem dT_replC (ho : DE X g o mo) (hyz : (y == z) = false := by decide +kernel)
    (hst : starEach [.Constant (.str y) j c0, .Constant (.str z) k c1] X.env = [(false, eval (.Constant (.str y) j c0) X.env), (false, eval (.Constant (.str z) k c1) X.env)] := by rfl)
    (hbase : attributeBase o "replace" X.env (eval o X.env) = eval o X.env := by rfl) (hline : (apos.endLine == pos.line) = true := by rfl) :
    DET X g (.Call (.Attribute o "replace" apos) [.Constant (.str y) j c0, .Constant (.str z) k c1] [] pos) (mUn (o1 (replD y z)) mo) :=
  PETw (CwR.pet_replC ho hyz hst hbase hline) fun σ H Q => le_o1 fun ρ S d r v H Q l rd h q => repl_q l rd h q
theorem dT_replT (ho : DET X g o mo) (hyz : (y == z) = false := by decide +kernel)
    (hst : starEach [.Constant (.str y) j c0, .Constant (.str z) k c1] X.env = [(false, eval (.Constant (.str y) j c0) X.env), (false, eval (.Constant (.str z) k c1) X.env)] := by rfl)
    (hbase : attributeBase o "replace" X.env (eval o X.env) = eval o X.env := by rfl) (hline : (apos.endLine == pos.line) = true := by rfl) :
    DET X g (.Call (.Attribute o "replace" apos) [.Constant (.str y) j c0, .Constant (.str z) k c1] [] pos) (mUn (o1 (replD y z)) mo) :=
  PETw (CwR.pet_replT ho hyz hst hbase hline) fun σ H Q => le_o1 fun ρ S d r v H Q l rd h q => repl_q l rd h q
theorem dT_add (ha : DET X g a ma) (hb : DET X g b mb) (hK : g.K = X.K := by rfl) : DET X g (.BinOp a .Add b pos) (mBin (o2 addD) ma mb) := by
  refine PETw (CwR.pet_op (op_add.or (op_add_str.or (op_cat.or op_catA))) ha hb) fun σ H Q => le_o2 fun ρ S a b c u v H Q l ra rb h q => ?_
  unfold addD at h
  split at h
  · cases h
    refine .inl ⟨_, _, RepR.int_inv ra, RepR.int_inv rb, same_q l (.int _) q⟩
  · split at h
    · cases h
      rename_i x y hz
      refine .inr (.inl ⟨_, _, (RepR.str_inv ra).1, (RepR.str_inv rb).1, hz, same_q l (.str (by rw [str_app_len]; exact hz)) q⟩)
    · cases h
  · split at h
    · cases h
      rename_i x y hz
      obtain ⟨p, vs, rfl, h1, r1⟩ := RepR.lst_inv ra
      obtain ⟨p2, us, rfl, h2, r2⟩ := RepR.lst_inv rb
      exact .inr (.inr (.inl ⟨p, p2, vs, us, rfl, rfl, h1, h2, by rw [r1.length, r2.length]; exact hz, new_lst l (Reps.append r1 r2) q⟩))
    · cases h
  · split at h
    · cases h
      rename_i x y hz
      obtain ⟨p, vs, rfl, h1, r1⟩ := RepR.tup_inv ra
      obtain ⟨p2, us, rfl, h2, r2⟩ := RepR.tup_inv rb
      have ea : vs = [] → x = [] := fun e => by have := r1.length; subst e; simpa using this.symm
      have eb : us = [] → y = [] := fun e => by have := r2.length; subst e; simpa using this.symm
      refine .inr (.inr (.inr ⟨p, p2, vs, us, rfl, rfl, hK ▸ h1.of, hK ▸ h2.of, by rw [r1.length, r2.length]; exact hz, fun e => ?_, fun _ e => ?_, fun _ _ => new_tup l (Reps.append r1 r2) q⟩))
      · rw [ea e] at q; exact same_q l (RepR.tup_rep rb) q
      · rw [eb e, List.append_nil] at q; exact same_q l (RepR.tup_rep ra) q
    · cases h
  · cases h
theorem sT_nil : DSsT X g [] sNil := PSsT.of s_nil
theorem sT_cons (h1 : DST X g st m) (h2 : DSsT X g rest m') : DSsT X g (st :: rest) (sSeq m m') := PSsTw (psst_cons h1 h2) fun D σ H h => by
  obtain ⟨ρ, S, w, l, sl, h⟩ := h
  refine ⟨ρ, S, w, l, sl, ?_⟩
  have h : RunO g ((m w S).andThen m') D ρ σ H := h
  cases e : m w S with
  | nx w1 S1 =>
    rw [e] at h
    exact fun ρ1 H1 σ1 e1 l1 s1 => ⟨ρ1, S1, w1, l1, s1, RunO.ext e1 h⟩
  | rt x S1 => rw [e] at h; exact h
  | bk w1 S1 => rw [e] at h; exact h
  | ct w1 S1 => rw [e] at h; exact h
  | exc x w1 S1 => rw [e] at h; exact h
  | bad => rw [e] at h; exact h
theorem sT_one (h1 : DST X g st m) : DSsT X g [st] m := CwR.psst_one h1
theorem sT_ret (he : DET X g e me) : DST X g (.Return (some e) pos) (sRet me) := PSTw (CwR.pst_ret he) fun D σ H h => by
  obtain ⟨ρ, S, w, l, sl, h⟩ := h
  exact ⟨ρ, S, w, l, sl, RunO.bnd sl h fun ρ1 S1 a v H1 e1 l1 r1 h1 => h1 ρ1 H1 v (Ext.refl _ _) l1 r1⟩
theorem sT_if (hc : DT X g c mt) (ha : DSsT X g sa m) (hb : DSsT X g sb m') : DST X g (.If c sa sb pos) (sIf mt m m') := PSTw (CwR.pst_if hc ha hb) fun D σ H h => by
  obtain ⟨ρ, S, w, l, sl, h⟩ := h
  refine ⟨ρ, S, w, l, sl, RunO.bnd sl h fun ρ1 S1 k v H1 e1 l1 r1 h1 => ?_⟩
  have r1 : k = v := r1
  subst r1
  cases k with
  | true => exact ⟨ρ1, S1, w, l1, sl.mono e1, h1⟩
  | false => exact ⟨ρ1, S1, w, l1, sl.mono e1, h1⟩
theorem sT_set (i : Nat) {x : Str} {pos' : Pos} (nd : X.N.Nodup) (he : DET X g e me) (hN : X.N[i]? = some x := by rfl) (hx : Loc X.env.scope x := by first | exact Or.inl rfl | exact Or.inr rfl) (hs : swapsWith e (some (.Name x pos')) pos.line X.env = pure false := by rfl)
    (hf : X.fn x = true ∨ X.env.scope.names.lookup x = some .local := by first | exact .inl rfl | exact .inr rfl | assumption) : DST X g (.Assign [.Name x pos'] e pos) (sSet i me) := PSTw (pst_set nd hN hx he hs hf) fun D σ H h => by
  obtain ⟨ρ, S, w, l, sl, h⟩ := h
  exact ⟨ρ, S, w, l, sl, RunO.bnd sl h fun ρ1 S1 x v H1 e1 l1 r1 h1 => RunO.nx_ l1 ((sl.mono e1).set r1) h1⟩
end
section
variable {P : Program} {w : World} {K : PySem.W.Frag} {mg : Str → Option Value} {base : Heap} {x qual : Str} {st : Stmt} {f : Addr} {fd : FuncData} {N ps : List Str} {k : Nat} {m : MS}
theorem okNT {sp : Sp} (F : Fun K x qual st f fd) (S : FnScope N ps (defScope st)) (hnc : ∀ y ∈ (defScope st).names, y.2 ≠ .cell) (hps : 1 ≤ ps.length) (len : ∀ vs H Q E, sp vs H Q E → vs.length = ps.length)
    (hbody : ∀ (cdv : Value) (A : Around) (outer : List Env) (s : Shared) (H : Hp) (vs : List V) (Q : VK) (E : XK), Room k (A.deeper (envOfC qual (defScope st) s.heap.objs.size f cdv)) → sp vs H Q E →
      ∃ t, PSsT (cxOf (L2N.CX P w) P w K mg base N qual (defScope st) f cdv A outer s H E) (defBody st) t ∧ t { nx := fun _ H' => Q .non H', rt := Q } (L2.start N vs) H) : FnOk P w K mg base (L2N.CX P w) (k + 1) f fd ps sp := by
  obtain ⟨oc, od, kV, doc, pm, an, cdv, ct, osl, rfl, lk, hcd⟩ := F.ex
  exact fn_ofT lk hcd S hnc hps len fun A outer s H vs Q E hr hsp => hbody cdv A outer s H vs Q E hr hsp
/-- a def on data does what its mirror does -/
theorem def_PT (F : Fun K x qual st f fd) (sc : FnScope N ps (defScope st)) (hnc : ∀ y ∈ (defScope st).names, y.2 ≠ .cell) (hps : 1 ≤ ps.length)
    (hb : ∀ (cdv : Value) (A : Around) (outer : List Env) (s : Shared) (H : Hp) (E : XK), Room k (A.deeper (envOfC qual (defScope st) s.heap.objs.size f cdv)) → ∀ B : Addr → Prop,
      DSsT (cxOf (L2N.CX P w) P w K mg base N qual (defScope st) f cdv A outer s H E) ⟨K, mg, B, fun cls d _ H => E cls d H⟩ (defBody st) m) :
    FnOk P w K mg base (L2N.CX P w) (k + 1) f fd ps (spP K mg (runP ps.length N.length m)) := by
  refine okNT F sc hnc hps (fun vs H Q E h => ?_) fun cdv A outer s H vs Q E hr h => ?_
  · obtain ⟨B, ds, _, r, h⟩ := h
    by_cases hl : ds.length = ps.length
    · rw [r.length, hl]
    · unfold runP at h
      rw [if_neg hl] at h
      exact h.elim
  · obtain ⟨B, ds, hB, r, h⟩ := h
    refine ⟨_, hb cdv A outer s H E hr B, [], [], ent (ds.map W.d) (N.length - ds.length), Rl.nil hB, ?_, ?_⟩
    · have := ent_slots (N := N) (repWs_d (ρ := []) (F := B) (by rw [bar_nil]; exact r))
      rwa [List.length_map] at this
    · have hl : ds.length = ps.length := by
        by_cases hl : ds.length = ps.length
        · exact hl
        · unfold runP at h
          rw [if_neg hl] at h
          exact h.elim
      unfold runP at h
      rw [if_pos hl] at h
      cases e : m (ent (ds.map W.d) (N.length - ds.length)) [] with
      | nx w1 S1 =>
        rw [e] at h
        exact fun ρ1 H1 σ1 e1 l1 s1 => h H1 .non (fun b o q => e1.keep b o q (by simp)) Rep.non
      | rt x S1 =>
        rw [e] at h
        cases x with
        | l n => exact h.elim
        | d d => exact fun ρ1 H1 v e1 l1 r1 => h H1 v (fun b o q => e1.keep b o q (by simp)) (Rep.mono ⟨fun _ _ h _ => h, fun b o h n z => n (.inl z)⟩ _ _ r1)
      | exc x w1 S1 =>
        rw [e] at h
        exact fun ρ1 H1 σ1 cls dd e1 l1 s1 rx => h H1 cls dd (fun b o q => e1.keep b o q (by simp)) (rx.mono ⟨fun _ _ h _ => h, fun b o h n z => n (.inl z)⟩)
      | bk w1 S1 => rw [e] at h; exact h.elim
      | ct w1 S1 => rw [e] at h; exact h.elim
      | bad => rw [e] at h; exact h.elim
theorem cp_mkT (h : Has K mg x st ps) (sc : FnScope N ps (defScope st)) (hnc : ∀ y ∈ (defScope st).names, y.2 ≠ .cell) (hps : 1 ≤ ps.length)
    (hb : ∀ (cdv : Value) (A : Around) (outer : List Env) (s : Shared) (H : Hp) (E : XK) (f : Addr), Room k (A.deeper (envOfC x (defScope st) s.heap.objs.size f cdv)) → ∀ B : Addr → Prop,
      DSsT (cxOf (L2N.CX P w) P w K mg base N x (defScope st) f cdv A outer s H E) ⟨K, mg, B, fun cls d _ H => E cls d H⟩ (defBody st) m) :
    CP P w K mg base (k + 1) x (runP ps.length N.length m) :=
  let ⟨f, fd, F, hm, hb'⟩ := h
  ⟨f, fd, ps, hm, F.kp, hb', def_PT F sc hnc hps fun cdv A outer s H E hr B => hb cdv A outer s H E f hr B⟩
end
end Mi

namespace Mi
open PySem PySem.Spec PyProof.Rows L2
/-! ### text.encode() of an ascii text; a number in bytes -/
def encA (a : Str) : Array UInt8 := a.cps.map fun k => UInt8.ofNat k
def ascB (a : Str) : Bool := a.cps.toList.all fun c => decide (c < 128)
def encT : D → List D → Option D
  | .str a, [] => if ascB a = true ∧ a.length ≤ 16777216 then some (.byt (encA a)) else none
  | _, _ => none
theorem u8_back (c : UInt8) : UInt8.ofNat c.toNat = c := PySem.QB.u8_self c
theorem ints_u8 : ∀ (l : List UInt8) (m : List Nat), (l.map fun c => (c.toNat : Int)) = (m.map fun c => ((c : Nat) : Int)) → l = m.map fun k => UInt8.ofNat k
  | [], [], _ => rfl
  | [], _ :: _, h => by cases h
  | _ :: _, [], h => by cases h
  | a :: l, b :: m, h => by
    simp only [List.map_cons, List.cons.injEq] at h
    rw [List.map_cons, ← ints_u8 l m h.2]
    have e : a.toNat = b := by omega
    rw [← e, u8_back]
theorem enc_eq {c : Array UInt8} {a : Str} (h : PySem.W.KBw.bInts c = PySem.W.KSb.codes a) : c = encA a := by
  have := ints_u8 c.toList a.cps.toList h
  apply Array.ext'
  rw [this]
  unfold encA
  rw [Array.toList_map]
theorem mt_encode {X : Cx} : MtR X "str.encode" (fun x xs H Q => ∃ a, x = .str a ∧ xs = [] ∧ (PySem.W.KSb.Asc a ∧ a.length ≤ 16777216) ∧ Q (.byt (encA a)) H) := by
  intro pins s σ H x xs v us Q I rx rs h
  obtain ⟨a, rfl, rfl, ⟨ha, hz⟩, h⟩ := h
  obtain ⟨t, rfl⟩ := rx
  cases rs
  exact PySem.W.KSb.encode_K ha hz fun c t' k e _ _ => ⟨.byt (encA a), H, I.tok k, ⟨t', by rw [enc_eq e]⟩, h⟩
section
variable {X : Cx} {g : G}
theorem m_encode : MR X g "str.encode" (oM encT) := by
  refine m_of mt_encode fun ρ S d ds c v vs H Q l rd rds h q => ?_
  unfold encT at h
  split at h
  · rename_i a
    split at h
    · rename_i hz
      cases h
      exact ⟨a, (RepR.str_inv rd).1, rds.none, ⟨fun c hc => of_decide_eq_true (List.all_eq_true.mp hz.1 c hc), hz.2⟩, same_q l (.byt (by
        have : (encA a).size = a.length := by unfold encA; rw [Array.size_map]; rfl
        rw [this]; exact hz.2)) q⟩
    · cases h
  · cases h
def intInB (i : Int) (b : Array UInt8) : Bool := (b.toList.map fun c => (c.toNat : Int)).contains i
def notInB : D → D → Option D
  | .int i, .byt b => if 0 ≤ i ∧ i < 256 then some (.bl (!intInB i b)) else none
  | _, _ => none
def inB : D → D → Option D
  | .int i, .byt b => if 0 ≤ i ∧ i < 256 then some (.bl (intInB i b)) else none
  | _, _ => none
theorem op_notInB : OpR X (compareOp .NotIn) (fun x y H Q => ∃ i b, x = .int i ∧ y = .byt b ∧ 0 ≤ i ∧ i < 256 ∧ Q (.bl (!intInB i b)) H) := by
  intro pins s σ H x y v u Q I rx ry h
  obtain ⟨i, b, rfl, rfl, h0, h1, q⟩ := h
  obtain ⟨t, rfl⟩ := rx
  obtain ⟨t', rfl⟩ := ry
  exact PySem.W.KBi.notIn_K rfl h0 h1 ⟨.bl _, H, I, rfl, q⟩
theorem op_inB : OpR X (compareOp .In) (fun x y H Q => ∃ i b, x = .int i ∧ y = .byt b ∧ 0 ≤ i ∧ i < 256 ∧ Q (.bl (intInB i b)) H) := by
  intro pins s σ H x y v u Q I rx ry h
  obtain ⟨i, b, rfl, rfl, h0, h1, q⟩ := h
  obtain ⟨t, rfl⟩ := rx
  obtain ⟨t', rfl⟩ := ry
  exact PySem.W.KBi.in_K rfl h0 h1 ⟨.bl _, H, I, rfl, q⟩
theorem c_notInB : CR X g .NotIn notInB := by
  refine ⟨_, op_notInB, run_o2 fun ρ S a b c u v H Q l ra rb h q => ?_⟩
  unfold notInB at h
  split at h
  · rename_i i b
    split at h
    · rename_i hz
      cases h
      exact ⟨i, b, RepR.int_inv ra, (RepR.byt_inv rb).1, hz.1, hz.2, same_q l (.bl _) q⟩
    · cases h
  · cases h
theorem c_inB : CR X g .In inB := by
  refine ⟨_, op_inB, run_o2 fun ρ S a b c u v H Q l ra rb h q => ?_⟩
  unfold inB at h
  split at h
  · rename_i i b
    split at h
    · rename_i hz
      cases h
      exact ⟨i, b, RepR.int_inv ra, (RepR.byt_inv rb).1, hz.1, hz.2, same_q l (.bl _) q⟩
    · cases h
  · cases h
end
end Mi

namespace Mi
open PySem PySem.Spec PySem.Builtin PyProof.Rows L2
/-! ### ord; a text times a number; a written dict, asked at once -/
def ordF : List D → Option D
  | [.str x] => if x.length = 1 then some (.int (x.cps.getD 0 0 : Nat)) else none
  | _ => none
/-- a text, n times -/
def repS (x : Str) (n : Int) : Str := if n < 1 then Str.empty else if (n == 1 || x.length == 0) = true then x else ⟨(List.replicate n.toNat x.cps).foldl (· ++ ·) #[]⟩
def mulSD : D → D → Option D
  | .str x, .int n => if 0 ≤ n ∧ n ≤ 1000 ∧ x.length ≤ 1000 ∧ (repS x n).length ≤ sizeLine then some (.str (repS x n)) else none
  | _, _ => none
section
variable {X : Cx} {g : G} {a b : Expr} {ma mb : ME} {pos : Pos}
theorem f_ord : FR X g (.builtin "ord") ordF := by
  refine ⟨_, call_ord, fun ρ S ds c vs H Q l r h q => ?_⟩
  unfold ordF at h
  split at h
  · rename_i x
    split at h
    · rename_i hz
      obtain ⟨v, rfl, r1⟩ := r.one
      cases h
      exact ⟨x, by rw [(RepR.str_inv r1).1], hz, same_q l (.int _) q⟩
    · cases h
  · cases h
theorem op_mulS : OpR X (binaryOp .Mult) (fun x y H Q => ∃ s n, x = .str s ∧ y = .int n ∧ 0 ≤ n ∧ n ≤ 1000 ∧ s.length ≤ 1000 ∧ (repS s n).length ≤ sizeLine ∧ Q (.str (repS s n)) H) := by
  intro pins s σ H x y v u Q I rx ry h
  obtain ⟨z, n, rfl, rfl, h0, h1, h2, h3, q⟩ := h
  obtain ⟨t, rfl⟩ := rx
  obtain ⟨t', rfl⟩ := ry
  have lim : z.length * n.toNat ≤ 1000 * 1000 := Nat.mul_le_mul h2 (by omega)
  refine PySem.P.mul_str (by rw [decide_eq_false (by omega), decide_eq_false (by omega)]; rfl) (fun hn _ => ?_) (fun _ _ => ?_) ?_
  · have : (9223372036854775807 : Int) / 1000 ≤ (2 ^ 63 - 1) / n := by
      have e : (2 : Int) ^ 63 - 1 = 9223372036854775807 := by decide
      rw [e]
      refine (Int.le_ediv_iff_mul_le (by omega)).mpr ?_
      have : (9223372036854775807 : Int) / 1000 = 9223372036854775 := by decide
      rw [this]
      omega
    have : (9223372036854775807 : Int) / 1000 = 9223372036854775 := by decide
    omega
  · unfold PySem.Builtin.Str.tooLong
    exact decide_eq_false (by rw [sizeLine_eq]; omega)
  · unfold repS at h3 q
    split
    · rename_i hn
      rw [if_pos hn] at h3 q
      exact ⟨h3, .str _, H, I.tok _, ⟨_, rfl⟩, q⟩
    · rename_i hn
      rw [if_neg hn] at h3 q
      split
      · rename_i hm
        rw [if_pos hm] at h3 q
        exact ⟨.str _, H, I, ⟨_, rfl⟩, q⟩
      · rename_i hm
        rw [if_neg hm] at h3 q
        exact ⟨h3, .str _, H, I.tok _, ⟨_, rfl⟩, q⟩
theorem d_mulS (ha : DE X g a ma) (hb : DE X g b mb) : DE X g (.BinOp a .Mult b pos) (mBin (o2 mulSD) ma mb) := by
  refine PEw (pe_op op_mulS ha hb) fun σ H Q => le_o2 fun ρ S a b c u v H Q l ra rb h q => ?_
  unfold mulSD at h
  split at h
  · rename_i x n
    split at h
    · rename_i hz
      cases h
      exact ⟨x, n, (RepR.str_inv ra).1, RepR.int_inv rb, hz.1, hz.2.1, hz.2.2.1, hz.2.2.2, same_q l (.str hz.2.2.2) q⟩
    · cases h
  · cases h
end
theorem bo_ord : bootBuiltins "ord" = some (.builtin "ord") := by decide +kernel
end Mi

namespace Mi
open PySem PySem.Spec PyProof.Rows L2
/-! ### a written dict of constants, asked at once -/
def cstV : D → V
  | .bl b => .bl b
  | .int i => .int i
  | .str s => .str s
  | _ => .non
def cstOk : D → Bool
  | .non => true
  | .bl _ => true
  | .int _ => true
  | .str s => decide (s.length ≤ 10000)
  | _ => false
theorem rep_cst {K : PySem.W.Frag} {H : Hp} {B : Addr → Prop} : ∀ {d : D}, cstOk d = true → Rep K H B d (cstV d)
  | .non, _ => .non
  | .bl b, _ => .bl b
  | .int i, _ => .int i
  | .str s, h => .str (by have := of_decide_eq_true h; rw [sizeLine_eq]; omega)
  | .byt _, h => by cases h
  | .tup _, h => by cases h
  | .lst _, h => by cases h
  | .frz _, h => by cases h
abbrev dTrs (kvs : List (Str × D)) : List (TE × TE) := kvs.map fun p => (tC (.str p.1), tC (cstV p.2))
def dKv (kvs : List (Str × D)) : List (Key × V) := kvs.map fun p => (Sum.inr p.1, cstV p.2)
theorem tPairs_c {σ : L2.St} {H : Hp} : ∀ (kvs : List (Str × D)) (Q : List (V × V) → Hp → Prop), Q ((dKv kvs).map fun kv => (kV kv.1, kv.2)) H → tPairs (dTrs kvs) σ H Q
  | [], Q, h => h
  | p :: r, Q, h => tPairs_c r (fun ps H3 => Q ((.str p.1, cstV p.2) :: ps) H3) h
/-- the last one with the key -/
def lastK (kvs : List (Str × D)) (s : Str) : Option D := kvs.reverse.lookup s
theorem merge_val (s : Str) : ∀ (kvs : List (Str × D)) (acc : List (Key × V)), valV (mergeK acc (dKv kvs)) (.inr s) = ((lastK kvs s).map cstV).or (valV acc (.inr s))
  | [], acc => by show valV acc (.inr s) = _; rfl
  | p :: r, acc => by
    show valV (mergeK (putK acc (.inr p.1) (cstV p.2)) (dKv r)) (.inr s) = _
    rw [merge_val s r, valV_put]
    have e : lastK (p :: r) s = (lastK r s).or (if s = p.1 then some p.2 else none) := by
      unfold lastK
      rw [List.reverse_cons]
      generalize r.reverse = l
      induction l with
      | nil =>
        by_cases c : s = p.1
        · subst c; simp [List.lookup]
        · have hb : (s == p.1) = false := beq_eq_false_iff_ne.mpr c
          simp [List.lookup, hb, c]
      | cons q l ih =>
        obtain ⟨a, b⟩ := q
        rw [List.cons_append]
        cases c : (s == a) with
        | true => simp [List.lookup, c]
        | false => simpa [List.lookup, c] using ih
    rw [e]
    cases lastK r s with
    | some d => rfl
    | none =>
      by_cases c : s = p.1
      · subst c; simp
      · have : ¬ (Sum.inr s : Key) = Sum.inr p.1 := fun z => c (Sum.inr.inj z)
        simp [c, this]
theorem last_mem {kvs : List (Str × D)} {s : Str} {d : D} (h : lastK kvs s = some d) : ∃ p ∈ kvs, p.2 = d := by
  unfold lastK at h
  have : ∀ l : List (Str × D), l.lookup s = some d → ∃ p ∈ l, p.2 = d := fun l => by
    induction l with
    | nil => intro h; cases h
    | cons q l ih =>
      obtain ⟨a, b⟩ := q
      intro h
      rw [List.lookup_cons] at h
      cases c : (s == a) with
      | true => rw [c] at h; cases h; exact ⟨(a, d), by simp, rfl⟩
      | false => rw [c] at h; obtain ⟨p, hp, e⟩ := ih h; exact ⟨p, by simp [hp], e⟩
  obtain ⟨p, hp, e⟩ := this _ h
  exact ⟨p, List.mem_reverse.mp hp, e⟩
def dixD (kvs : List (Str × D)) : D → Option D
  | .str s => lastK kvs s
  | _ => none
def dgetD (kvs : List (Str × D)) : D → D → Option D
  | .str s, .str z => some ((lastK kvs s).getD (.str z))
  | _, _ => none
section
variable {X : Cx} {g : G} {keys : List (Option Expr)} {values : List Expr} {i f : Expr} {mi mf : ME} {pos dpos apos : Pos} {kvs : List (Str × D)}
theorem dict_new {ρ : List (Option Addr)} {S : List C} {H : Hp} {p : Addr} {o : HO} (l : Rl g.K g.F ρ S H) (hp : H p = none) : Ext ρ H ρ (upd (upd H p (.dK [])) p o) ∧ Rl g.K g.F ρ S (upd (upd H p (.dK [])) p o) := by
  have e : upd (upd H p (.dK [])) p o = upd H p o := by
    funext b
    unfold upd
    split <;> rfl
  rw [e]
  exact ⟨ext_new hp, rl_new l hp⟩
theorem d_dix (hP : PPs X dpos keys values (dTrs kvs)) (hall : keys.all (·.isSome) = true := by rfl) (hl : keys.length = values.length := by rfl) (h0 : keys ≠ [] := by exact fun h => nomatch h) (h15 : keys.length ≤ 15 := by decide)
    (hkl : kvs.length ≤ 15 := by decide) (hc : (kvs.all fun p => cstOk p.2) = true := by decide +kernel) (hu : X.A.units + 1 < cLine) (hi : DE X g i mi) (hs : NoSl i := by exact fun _ _ => rfl) :
    DE X g (.Subscript (.Dict keys values dpos) i pos) (mUn (o1 (dixD kvs)) mi) := PEw (pe_dget hu (pe_disp hP hall hl h0 h15) hi hs) fun σ H Q h => by
  intro p hp
  refine tPairs_c kvs _ ⟨upd_same, dKv kvs, rfl, by unfold dKv; rw [List.length_map]; exact hkl, ?_⟩
  obtain ⟨ρ, S, w, l, sl, r⟩ := h
  obtain ⟨ex, l'⟩ := dict_new (o := .dK (mergeK [] (dKv kvs))) l hp
  have nb : ¬ bar g.F ρ p := new_nb l hp
  refine ⟨ρ, S, w, l', sl.mono ex, Run.bnd (Run.mono ex r fun _ _ q => q) fun ρ1 S1 x u H1 e1 l1 r1 h1 => ?_⟩
  unfold o1 at h1
  cases ev : vw x S1 with
  | none => rw [ev] at h1; exact h1.elim
  | some a =>
    simp only [ev] at h1
    cases a with
    | str s =>
      have ru := vw_ok l1 r1 ev
      obtain ⟨eu, _⟩ := RepR.str_inv ru
      cases e3 : lastK kvs s with
      | none => rw [show dixD kvs (.str s) = none from e3] at h1; exact h1.elim
      | some d =>
        rw [show dixD kvs (.str s) = some d from e3] at h1
        obtain ⟨q, hq, eq⟩ := last_mem e3
        have ok : cstOk d = true := by rw [← eq]; exact List.all_eq_true.mp hc q hq
        have hv : valV (mergeK [] (dKv kvs)) (.inr s) = some (cstV d) := by rw [merge_val, e3]; rfl
        have hH : H1 p = some (.dK (mergeK [] (dKv kvs))) := e1.keep p _ upd_same fun z => nb (.inr z)
        refine ⟨p, cstV d, rfl, ?_, Run.ok_ (rep := rW g) l1 (show RepW g.K H1 g.F ρ1 (.d d) (cstV d) from rep_cst ok) h1⟩
        rw [eu]
        have := DGet.k (k := .inr s) hH
        rw [hv] at this
        exact this
    | _ => exact h1.elim
theorem d_dget2 (hP : PPs X dpos keys values (dTrs kvs)) (hall : keys.all (·.isSome) = true := by rfl) (hl : keys.length = values.length := by rfl) (h0 : keys ≠ [] := by exact fun h => nomatch h) (h15 : keys.length ≤ 15 := by decide)
    (hkl : kvs.length ≤ 15 := by decide) (hc : (kvs.all fun p => cstOk p.2) = true := by decide +kernel) (hu : X.A.units + 1 < cLine) (hi : DE X g i mi) (hf : DE X g f mf)
    (m : M2 X (.Dict keys values dpos) "get" apos i f pos := by exact ⟨rfl, rfl, rfl, rfl⟩) :
    DE X g (.Call (.Attribute (.Dict keys values dpos) "get" apos) [i, f] [] pos) (mBin (o2 (dgetD kvs)) mi mf) := PEw (pe_dget2 hu (pe_disp hP hall hl h0 h15) hi hf m) fun σ H Q h => by
  intro p hp
  refine tPairs_c kvs _ ⟨upd_same, dKv kvs, rfl, by unfold dKv; rw [List.length_map]; exact hkl, ?_⟩
  refine ⟨p, rfl, .inl ⟨_, .inl upd_same⟩, ?_⟩
  obtain ⟨ρ, S, w, l, sl, r⟩ := h
  obtain ⟨ex, l'⟩ := dict_new (o := .dK (mergeK [] (dKv kvs))) l hp
  have nb : ¬ bar g.F ρ p := new_nb l hp
  refine ⟨ρ, S, w, l', sl.mono ex, Run.bnd (Run.mono ex r fun _ _ q => q) fun ρ1 S1 x u H1 e1 l1 r1 h1 => ?_⟩
  refine ⟨ρ1, S1, w, l1, (sl.mono ex).mono e1, Run.bnd h1 fun ρ2 S2 y v H2 e2 l2 r2 h2 => ?_⟩
  have r1' := r1.mono e2
  unfold o2 at h2
  cases ev : vw x S2 with
  | none => rw [ev] at h2; exact h2.elim
  | some a =>
    cases ev2 : vw y S2 with
    | none => rw [ev, ev2] at h2; exact h2.elim
    | some b =>
      simp only [ev, ev2] at h2
      cases a with
      | str s =>
        cases b with
        | str z =>
          obtain ⟨eu, _⟩ := RepR.str_inv (vw_ok l2 r1' ev)
          obtain ⟨eu2, lz⟩ := RepR.str_inv (vw_ok l2 r2 ev2)
          have hv : valV (mergeK [] (dKv kvs)) (.inr s) = (lastK kvs s).map cstV := by
            rw [merge_val]
            cases lastK kvs s <;> rfl
          have hH : H2 p = some (.dK (mergeK [] (dKv kvs))) := (e1.trans e2).keep p _ upd_same fun z => nb (.inr z)
          have dg := DGet.k (k := .inr s) hH
          rw [hv] at dg
          refine ⟨_, by rw [eu]; exact dg, ?_⟩
          rw [show dgetD kvs (.str s) (.str z) = some ((lastK kvs s).getD (.str z)) from rfl] at h2
          cases e3 : lastK kvs s with
          | none =>
            rw [e3] at h2
            show Q v H2
            rw [eu2]
            exact Run.ok_ (rep := rW g) l2 (show RepW g.K H2 g.F ρ2 (.d (.str z)) (.str z) from Rep.str (K := g.K) (H := H2) (B := bar g.F ρ2) lz) h2
          | some d =>
            rw [e3] at h2
            obtain ⟨q, hq, eq⟩ := last_mem e3
            have ok : cstOk d = true := by rw [← eq]; exact List.all_eq_true.mp hc q hq
            exact Run.ok_ (rep := rW g) l2 (show RepW g.K H2 g.F ρ2 (.d d) (cstV d) from rep_cst ok) h2
        | _ => exact h2.elim
      | _ => exact h2.elim
end
end Mi

namespace Mi
open PySem PySem.Spec PyProof.Rows L2
/-! ### an except suite that asks isinstance of what it holds -/
/-- what cn must say, so that isinstance asks its instances rightly -/
def IsC (K : PySem.W.Frag) (mg : Str → Option Value) (cn : Str) : Prop := ∃ C, mg cn = some (.ref C) ∧ (PySem.W.clsIn K C).isSome = true ∧ PySem.W.findIn K (.ref C) "__getattribute__" = some (some (.builtin "BaseException.__getattribute__")) ∧ PySem.W.findIn K (.ref C) "__getattr__" = some none ∧
  PySem.W.subIn K (.ref C) (.type "BaseException") = some true ∧ PySem.W.findIn K (.ref C) "__class__" = some (some (.builtin "object.__class__")) ∧ PySem.W.specialIn K (.builtin "object.__class__") "__get__" = some (some (.builtin "getset_descriptor.__get__")) ∧
  PySem.W.takesIn K (.builtin "object.__class__") = some true ∧ PySem.W.mroIn K C (.type "object") = some true
def KIs (K : PySem.W.Frag) (mg : Str → Option Value) (cn : Str) (cv : Value) (b : Bool) : Prop := ∃ C, mg cn = some (.ref C) ∧ PySem.W.kitOne K (.ref C) cv = some b
/-- each class that may come, and the answer -/
def Asks (K : PySem.W.Frag) (mg : Str → Option Value) (cv : Value) (tbl : Str → Option Bool) : Prop := ∀ cn b, tbl cn = some b → IsC K mg cn ∧ KIs K mg cn cv b
def rIsX (K : PySem.W.Frag) (D a : Addr) (dd : Option Addr) : List V → Hp → VK → Prop := fun xs H Q => ∃ (c : V) (cv : Value) (b : Bool), xs = [.ref a, c] ∧ (∀ u, RelV c u → u = cv) ∧ PySem.W.kitOne K (.ref D) cv = some b ∧ (dd = none ∨ ∃ da fs, dd = some da ∧ H da = some (.xd fs)) ∧
  (∃ mg cn, IsC K mg cn ∧ mg cn = some (.ref D)) ∧ Q (.bl b) H
theorem call_isX {X : Cx} {a D : Addr} {dd : Option Addr} {oe : Obj} {pn : List (Addr × Obj)} (hz : L2N.Zn (.ref D) dd oe) (hf : ∃ vs, oe.data = .fields vs) : CallR (X.suite a ((a, oe) :: pn)) (.builtin "isinstance") (rIsX X.K D a dd) := by
  intro pins s σ H xs us Q I r h
  obtain ⟨c, cv, b, rfl, hcv, e, hd, ⟨mg, cn, ⟨C, hm, c1, c2, c3, c4, c5, c6, c7, c8⟩, hm2⟩, q⟩ := h
  have eC : C = D := by rw [hm] at hm2; cases hm2; rfl
  subst eC
  cases r with
  | cons rx rr =>
    cases rr with
    | cons rt rr =>
      cases rr
      cases rx
      have ec := hcv _ rt
      subst ec
      obtain ⟨hget, _⟩ := I.pin (a, oe) (List.mem_append.mpr (.inl List.mem_cons_self))
      obtain ⟨vs, hv⟩ := hf
      have ncl : PySem.W.notCls oe = true := by unfold PySem.W.notCls; rw [hv] <;> rfl
      rcases hd with hd | ⟨da, fs, hd, hH⟩
      · subst hd
        have J : PySem.W.InstAt s.heap a oe C none := ⟨hget, hz.1, ncl, by rw [hz.2.1]; trivial⟩
        exact PySem.W.kia_one (PySem.W.kitx_exc c1 c2 c3 c4 c5 c6 c7 c8) I.kIn J e (fun z => nomatch z) fun tk => ⟨.bl b, H, I.kept (t' := tk) fun _ _ z => z, rfl, q⟩
      · subst hd
        have hx : ObjOk X.prog X.w H s.heap da (.xd fs) := I.hok da _ hH
        obtain ⟨mA, hns, _⟩ := hx
        obtain ⟨od, ho, _⟩ := lookIn_ns hns
        have J : PySem.W.InstAt s.heap a oe C (some od) := ⟨hget, hz.1, ncl, by rw [hz.2.1]; exact ho⟩
        exact PySem.W.kia_one (PySem.W.kitx_exc c1 c2 c3 c4 c5 c6 c7 c8) I.kIn J e (fun z => nomatch z) fun tk => ⟨.bl b, H, I.kept (t' := tk) fun _ _ z => z, rfl, q⟩
def isX (tbl : Str → Option Bool) : Ex → MT := fun x _ S => match tbl x.cls with
  | some b => .ok b S
  | none => .bad
abbrev LTX (g : G) (i : Nat) (a : Addr) (cls : Value) (dd : Option Addr) (m : Ex → MT) : TT := LftX g i a cls dd (fun _ _ k v => k = v) m
section
variable {X : Cx} {g : G} {i : Nat} {a : Addr} {oe : Obj} {cls : Value} {dd : Option Addr} {pn : List (Addr × Obj)} {e f : Expr} {rest : List Expr} {mt mu : Ex → MT} {pos : Pos}
theorem tx_not (ha : PT X e (LTX g i a cls dd mt)) : PT X (.UnaryOp .Not e pos) (LTX g i a cls dd fun x => mNotT (mt x)) := by
  refine PTw (pt_not ha) fun σ H Q ⟨x, ρ, S, w, l, sl, rx, si, h⟩ => ?_
  refine ⟨x, ρ, S, w, l, sl, rx, si, Run.bnd h fun ρ1 S1 k v H1 e1 l1 r1 h1 => ?_⟩
  have r1 : k = v := r1
  subst r1
  exact Run.ok_ (rep := fun _ _ k v => k = v) l1 rfl h1
theorem tx_or1 (ha : PT X e (LTX g i a cls dd mt)) : PW X (.BoolOp .Or [e] pos) (LTX g i a cls dd mt) := pw_or1 ha
theorem tx_or (ha : PT X e (LTX g i a cls dd mt)) (hb : PW X (.BoolOp .Or (f :: rest) pos) (LTX g i a cls dd mu)) : PW X (.BoolOp .Or (e :: f :: rest) pos) (LTX g i a cls dd fun x => mOrT (mt x) (mu x)) := by
  refine PWw (pw_or ha hb) fun σ H Q ⟨x, ρ, S, w, l, sl, rx, si, h⟩ => ?_
  refine ⟨x, ρ, S, w, l, sl, rx, si, Run.bnd h fun ρ1 S1 k v H1 e1 l1 r1 h1 => ?_⟩
  have r1 : k = v := r1
  subst r1
  cases k with
  | true => exact Run.ok_ (rep := fun _ _ k v => k = v) l1 rfl h1
  | false => exact ⟨x, ρ1, S1, w, l1, sl.mono e1, rx.mono (e1.ev g.F), si, h1⟩
theorem tx_is {y c : Str} {cv : V} {cu : Value} {tbl : Str → Option Bool} {p p1 p2 : Pos} (hA : Asks X.K X.mg cu tbl) (hcu : ∀ u, RelV cv u → u = cu) (hz : L2N.Zn cls dd oe) (hf : ∃ vs, oe.data = .fields vs) (hN : X.N[i]? = some y) (hv : Vis X.env.scope y) (hm : X.mg "isinstance" = none)
    (hc : PE (X.suite a ((a, oe) :: pn)) (.Name c p2) (tC cv)) (hg : Gl X "isinstance" := by rfl) (hb : bootBuiltins "isinstance" = some (.builtin "isinstance") := by decide +kernel) (hK : g.K = X.K := by rfl) (hM : g.mg = X.mg := by rfl)
    (hd1 : (y == ("__debug__" : Str)) = false := by decide) (hd2 : (y == ("__classdict__" : Str)) = false := by decide)
    (hs1 : starEach [.Name y p1, .Name c p2] X.env = (false, eval (.Name y p1) X.env) :: starEach [.Name c p2] X.env := by rfl) (hs2 : starEach [.Name c p2] X.env = (false, eval (.Name c p2) X.env) :: starEach [] X.env := by rfl) (hpl : (backTo pos (starEach [.Name c p2] X.env)).any (·.1) = false := by rfl)
    (he : ∀ whole, isTrue (.Call (.Name "isinstance" p) [.Name y p1, .Name c p2] [] pos) X.env whole = (do let v ← whole; standAt (Expr.pos (.Call (.Name "isinstance" p) [.Name y p1, .Name c p2] [] pos)); holding [v] (truthy v)) := by intro _; rfl) :
    PT (X.suite a ((a, oe) :: pn)) (.Call (.Name "isinstance" p) [.Name y p1, .Name c p2] [] pos) (LTX g i a cls dd (isX tbl)) := by
  refine ⟨fun pins s σ H Q I h => ?_⟩
  obtain ⟨x, ρ, S, w, l, sl, rx, si, h⟩ := h
  obtain ⟨C, hmC, hcl, hr⟩ := id rx
  subst hcl
  unfold isX at h
  cases et : tbl x.cls with
  | none => rw [et] at h; exact h.elim
  | some b =>
    rw [et] at h
    obtain ⟨hI, C', hm', hk⟩ := hA _ _ et
    have eC : C' = C := by rw [hM, hm'] at hmC; cases hmC; rfl
    subst eC
    have hd : dd = none ∨ ∃ da fs, dd = some da ∧ H da = some (.xd fs) := by
      cases dd with
      | none => exact .inl rfl
      | some da =>
        obtain ⟨_, us, _, hd, _⟩ := hr
        exact .inr ⟨da, _, rfl, hd⟩
    refine (pt_truth (X := X.suite a ((a, oe) :: pn)) (pe_callB (X := X.suite a ((a, oe) :: pn)) (call_isX hz hf) hg hm hb (pa_cons (pe_var (X := X.suite a ((a, oe) :: pn)) hN hv hd1 hd2) (pa_cons hc pa_nil hs2) hs1) (by decide) (by decide) hs1 hpl) he).run pins s σ H Q I ?_
    refine ⟨.ref a, si, ?_⟩
    refine ⟨cv, cu, b, rfl, hcu, hk, hd, ⟨X.mg, x.cls, hI, by rw [← hM]; exact hmC⟩, ?_⟩
    exact ⟨b, rfl, Run.ok_ (rep := fun _ _ k v => k = v) l rfl h⟩
theorem ret_nx (m : ME) : ∀ (w : Lw) (S : List C) (w1 : Lw) (S1 : List C), sRet m w S ≠ .nx w1 S1 := fun w S w1 S1 h => by
  unfold sRet R.stm at h
  split at h <;> cases h
theorem sx_ifret {c : Expr} {body rest : List Stmt} {m1 m2 : Ex → MS} (hr : ∀ (x : Ex) (w : Lw) (S : List C) (w1 : Lw) (S1 : List C), m1 x w S ≠ .nx w1 S1) (hc : PT X c (LTX g i a cls dd mt)) (h1 : PSs X body (LSX g i a cls dd m1)) (h2 : PSs X rest (LSX g i a cls dd m2)) :
    PSs X (.If c body [] pos :: rest) (LSX g i a cls dd fun x => sSeq (sIf (mt x) (m1 x) sNil) (m2 x)) := by
  refine PSsw (pss_cons (ps_if hc h1 pss_nil) h2) fun D σ H ⟨x, ρ, S, w, l, sl, rx, si, h⟩ => ?_
  refine ⟨x, ρ, S, w, l, sl, rx, si, ?_⟩
  have h : RunO g (((mt x w S).stm w fun c S1 => if c = true then m1 x w S1 else sNil w S1).andThen (m2 x)) D ρ σ H := h
  cases em : mt x w S with
  | bad => rw [em] at h; exact h.elim
  | exc z S1 =>
    rw [em] at h
    exact fun ρ1 H1 c d e l r => h ρ1 H1 σ c d e l (sl.mono e) r
  | ok k S1 =>
    rw [em] at h
    intro ρ1 H1 v e1 l1 rv
    have rv : k = v := rv
    subst rv
    cases k with
    | false =>
      have h : RunO g (m2 x w S1) D ρ σ H := h
      exact ⟨x, ρ1, S1, w, l1, sl.mono e1, rx.mono (e1.ev g.F), si, RunO.ext e1 h⟩
    | true =>
      have h : RunO g ((m1 x w S1).andThen (m2 x)) D ρ σ H := h
      refine ⟨x, ρ1, S1, w, l1, sl.mono e1, rx.mono (e1.ev g.F), si, ?_⟩
      cases e1m : m1 x w S1 with
      | nx w1 S2 => exact absurd e1m (hr x w S1 w1 S2)
      | rt y S2 => rw [e1m] at h; exact RunO.ext (σ := σ) (σ1 := σ) e1 h
      | bk w1 S2 => rw [e1m] at h; exact RunO.ext (σ := σ) (σ1 := σ) e1 h
      | ct w1 S2 => rw [e1m] at h; exact RunO.ext (σ := σ) (σ1 := σ) e1 h
      | exc z w1 S2 => rw [e1m] at h; exact RunO.ext (σ := σ) (σ1 := σ) e1 h
      | bad => rw [e1m] at h; exact h.elim
end
end Mi

namespace Mi
open PySem PySem.Spec PyProof.Rows L2
theorem asks_nil {K : PySem.W.Frag} {mg : Str → Option Value} {c : Value} : Asks K mg c (okT []) := fun cn b h => by cases h
theorem asks_cons {K : PySem.W.Frag} {mg : Str → Option Value} {c : Value} {cn : Str} {b : Bool} {t : List (Str × Bool)} (hi : IsC K mg cn) (hk : KIs K mg cn c b) (r : Asks K mg c (okT t)) : Asks K mg c (okT ((cn, b) :: t)) := fun x k h => by
  unfold okT at h
  rw [List.lookup_cons] at h
  cases e : x == cn with
  | true =>
    rw [e] at h
    cases h
    rw [beq_iff_eq.mp e]
    exact ⟨hi, hk⟩
  | false => rw [e] at h; exact r x k h
theorem bo_ValueError : bootBuiltins "ValueError" = some (.type "ValueError") := by decide +kernel
theorem kit_ty {K : PySem.W.Frag} {C : Addr} {T : String} {b : Bool} (h : PySem.W.kitOne K (.ref C) (.type T) = some b) : PySem.W.kitOne K (.ref C) (.type T) = some b := h
/-- a + b, two lists: a new list that is changed later -/
def catO (x y : W) (S : List C) : R W := match vw x S, vw y S with
  | some (.lst xs), some (.lst ys) => if xs.length + ys.length ≤ sizeLine then .ok (.l S.length) (S ++ [.lst (xs ++ ys)]) else .bad
  | _, _ => .bad
def mNewCat (a b : ME) : ME := mBin catO a b
section
variable {X : Cx} {g : G} {a b : Expr} {ma mb : ME} {pos : Pos}
theorem d_newcat (ha : DE X g a ma) (hb : DE X g b mb) : DE X g (.BinOp a .Add b pos) (mNewCat ma mb) := by
  refine PEw (pe_op op_cat ha hb) fun σ H Q => le_bin fun ρ S x y u v σ H Q l rx ry h => ?_
  unfold catO at h
  cases e1 : vw x S with
  | none => rw [e1] at h; exact h.elim
  | some d =>
    cases e2 : vw y S with
    | none => rw [e1, e2] at h; cases d <;> exact h.elim
    | some d2 =>
      simp only [e1, e2] at h
      cases d with
      | lst xs =>
        cases d2 with
        | lst ys =>
          simp only at h
          split at h
          · rename_i hz
            obtain ⟨p, vs, rfl, h1, r1⟩ := RepR.lst_inv (vw_ok l rx e1)
            obtain ⟨p2, us, rfl, h2, r2⟩ := RepR.lst_inv (vw_ok l ry e2)
            refine ⟨p, p2, vs, us, rfl, rfl, h1, h2, by rw [r1.length, r2.length]; exact hz, fun q hq => ?_⟩
            obtain ⟨c1, c2, c3⟩ := cell_new l hq (Reps.append r1 r2)
            exact h _ _ _ c1 c2 c3
          · exact h.elim
        | _ => exact h.elim
      | _ => exact h.elim
end
end Mi
namespace Mi
open PySem PySem.Spec PyProof.Rows L2
theorem kit_c {K : PySem.W.Frag} {t : Value} {C : Addr} {b : Bool} (h1 : (PySem.W.clsIn K C).isSome = true) (h2 : PySem.W.typeIn K (.ref C) = some (.type "type")) (h3 : PySem.W.subIn K t (.ref C) = some b) (h : b = true ∨ (t == .ref C) = false) : PySem.W.kitOne K t (.ref C) = some b := by
  unfold PySem.W.kitOne PySem.W.kitCls
  simp only
  rw [h1, h2, h3]
  have e : (some (Value.type "type") == some (.type "type")) = true := by rfl
  rw [e]
  simp only [Bool.and_self, if_true]
  split
  · rcases h with h | h
    · rw [h]
    · rename_i z; rw [h] at z; cases z
  · rfl
theorem kit_t {K : PySem.W.Frag} {t : Value} {T : String} {b : Bool} (h1 : PySem.W.kitMeta T = true) (h3 : PySem.W.subIn K t (.type T) = some b) (h : b = true ∨ (t == .type T) = false) : PySem.W.kitOne K t (.type T) = some b := by
  unfold PySem.W.kitOne PySem.W.kitCls
  simp only
  rw [h1, h3]
  simp only [if_true]
  split
  · rcases h with h | h
    · rw [h]
    · rename_i z; rw [h] at z; cases z
  · rfl
end Mi

set_option maxHeartbeats 4000000
namespace Mi.k18
open PySem PySem.Spec PyProof.Rows L2 Mi
def topS (i : Nat) : Stmt := PySem.Challenge.pw_bothdays_k18_plain_wrong_texts.main.body.getD i (.Pass ⟨0, 0, 0, 0⟩)
structure Nb (mg : Str → Option Value) : Prop where
  n_ValueError : mg "ValueError" = none
  n_bool : mg "bool" = none
  n_int : mg "int" = none
  n_isinstance : mg "isinstance" = none
  n_len : mg "len" = none
  n_ord : mg "ord" = none
  n_range : mg "range" = none
  n_str : mg "str" = none
  n_tuple : mg "tuple" = none
structure Gs (K : PySem.W.Frag) (mg : Str → Option Value) : Prop where
  g_MOST_DIGITS : ∃ u, mg "MOST_DIGITS" = some u ∧ L2.RelV (.int 20) u
  g_MOST_DEEP : ∃ u, mg "MOST_DEEP" = some u ∧ L2.RelV (.int 20) u
abbrev si_BadPlain : Stmt := (clsB (topS 5)).getD 0 (.Pass ⟨0, 0, 0, 0⟩)
theorem sci_BadPlain : FnScope ["self", "place"] ["self", "place"] (defScope si_BadPlain) := ⟨rfl, rfl, rfl, by decide +kernel, rfl, by decide +kernel, by decide +kernel⟩
def fx_BadPlain : List D → Option (List Str × List D) := fld1 "place" (mFmt (mVar 1))
theorem ce_BadPlain {P : Program} {w : World} {K : PySem.W.Frag} {mg : Str → Option Value} {base : Heap} {C fI B0 : Addr} {fd : FuncData} (hm : mg "BadPlain" = some (.ref C)) (T : OexC K C) (n1 : PySem.W.findIn K (.ref C) "place" = some none) (iC : PySem.W.findIn K (.ref C) "__init__" = some (some (.ref fI))) (tI : PySem.W.typeIn K (.ref fI) = some (.type "function")) (hL : mg "LawError" = some (.ref B0)) (bC : BaseC K B0) (F : Fun K "__init__" "BadPlain.__init__" si_BadPlain fI fd) (hb : Binds K fd ["self", "place"] []) : CE P w K mg base 1 "BadPlain" fx_BadPlain :=
  ⟨C, fI, fd, _, hm, T, iC, tI, hb, init_1 T n1 F sci_BadPlain (fun cdv A outer s H E B => pss_cons (ps_expr (pe_clsinit hL bC (pa_cons (pe_var rfl (.inl rfl)) (pa_cons (d_joined1 (d_fmt (d_var 1))) pa_nil)))) (pss_one (ps_ost (pe_var rfl (.inl rfl)) (pe_var rfl (.inl rfl)))))⟩
structure Xc (K : PySem.W.Frag) (mg : Str → Option Value) (c_LawError c_BadText c_BadPlain : Addr) : Prop where
  m_LawError : mg "LawError" = some (.ref c_LawError)
  m_BadText : mg "BadText" = some (.ref c_BadText)
  m_BadPlain : mg "BadPlain" = some (.ref c_BadPlain)
  ok_BadPlain : Exm K mg (okT [("BadPlain", true)]) (.ref c_BadPlain)
  f_BadPlain_place : FldC K mg "BadPlain" "place"
  is_BadText : Asks K mg (.ref c_BadText) (okT [("BadPlain", false)])
  is_LawError : Asks K mg (.ref c_LawError) (okT [("BadPlain", true)])
  is_ValueError : Asks K mg (.type "ValueError") (okT [("BadPlain", true)])
abbrev s_is_clean : Stmt := topS 1
abbrev N_is_clean : List Str := ["text"]
theorem sc_is_clean : FnScope N_is_clean ["text"] (defScope s_is_clean) := ⟨rfl, rfl, rfl, by decide +kernel, rfl, by decide +kernel, by decide +kernel⟩
noncomputable abbrev m_is_clean : MS := sRet (mAnd (mMth "str" (oM (tB Txt.isascii)) (mVar 0) mNil) (mAnd (mMth "str" (oM (tB Txt.isprintable)) (mVar 0) mNil) (mBin (o2 notInB) (mC (.int 37)) (mMth "str" (oM (encT)) (mVar 0) mNil))))
noncomputable def F_is_clean := runP 1 1 m_is_clean
theorem k_is_clean {P : Program} {w : World} {K : PySem.W.Frag} {mg : Str → Option Value} {base : Heap} (nb : Nb mg) (gl : Gs K mg) (hs : Has K mg "is_clean" s_is_clean ["text"])    : CP P w K mg base 1 "is_clean" F_is_clean :=
  cp_mk hs sc_is_clean (fun cdv A outer s H E f hr B => s_one (s_ret (d_and (d_mth0 PySem.F.plainAttrs_str PySem.F.slot_str_isascii PySem.F.type_str_isascii (m_tB mt_isascii) (d_var 0) (fun k ho => pe_bm0 PySem.F.plainAttrs_str PySem.F.slot_str_isascii PySem.F.type_str_isascii k ho)) (d_and (d_mth0 PySem.F.plainAttrs_str PySem.F.slot_str_isprintable PySem.F.type_str_isprintable (m_tB mt_isprintable) (d_var 0) (fun k ho => pe_bm0 PySem.F.plainAttrs_str PySem.F.slot_str_isprintable PySem.F.type_str_isprintable k ho)) (d_and1 (d_cmp c_notInB (d_int) (d_mth0 PySem.F.plainAttrs_str PySem.F.slot_str_encode PySem.F.type_str_encode (m_encode) (d_var 0) (fun k ho => pe_bm0 PySem.F.plainAttrs_str PySem.F.slot_str_encode PySem.F.type_str_encode k ho)) (by rfl)))))))
abbrev s_u_members : Stmt := topS 11
abbrev N_u_members : List Str := ["text", "at", "deep", "members", "sign", "member"]
theorem sc_u_members : FnScope N_u_members ["text", "at", "deep"] (defScope s_u_members) := ⟨rfl, rfl, rfl, by decide +kernel, rfl, by decide +kernel, by decide +kernel⟩
abbrev s_u_quote : Stmt := topS 13
abbrev N_u_quote : List Str := ["text", "at", "found"]
theorem sc_u_quote : FnScope N_u_quote ["text", "at"] (defScope s_u_quote) := ⟨rfl, rfl, rfl, by decide +kernel, rfl, by decide +kernel, by decide +kernel⟩
noncomputable abbrev m_u_quote : MS := sSeq (sSet 2 (mMth "str" (oM (tFind3)) (mVar 0) (mCons (mC (.str "\"")) (mCons (mVar 1) (mNil))))) (sRet (mIf (mB (mBin (o2 cmpLt) (mVar 2) (mC (.int 0)))) (mFn lenF (mCons (mVar 0) (mNil))) (mVar 2)))
noncomputable def F_u_quote := runP 2 3 m_u_quote
theorem k_u_quote {P : Program} {w : World} {K : PySem.W.Frag} {mg : Str → Option Value} {base : Heap} (nb : Nb mg) (gl : Gs K mg) (hs : Has K mg "_quote" s_u_quote ["text", "at"])    : CP P w K mg base 1 "_quote" F_u_quote :=
  cp_mk hs sc_u_quote (fun cdv A outer s H E f hr B => s_cons (s_set 2 sc_u_quote.nd (d_mth PySem.F.plainAttrs_str PySem.F.slot_str_find PySem.F.type_str_find (m_find3) (d_var 0) (a_cons (d_str) (a_cons (d_var 1) (a_nil))))) (s_one (s_ret (d_if (t_cmp c_lt (d_var 2) (d_int) (nomark _)) (d_fnB f_len nb.n_len bo_len (a_cons (d_var 0) (a_nil))) (d_var 2)))))
abbrev s_u_look : Stmt := topS 14
abbrev N_u_look : List Str := ["text", "at", "end", "place"]
theorem sc_u_look : FnScope N_u_look ["text", "at", "end"] (defScope s_u_look) := ⟨rfl, rfl, rfl, by decide +kernel, rfl, by decide +kernel, by decide +kernel⟩
noncomputable abbrev m_u_look : MS := sSeq (sIf (mTru (mCallP F_is_clean (mCons (mSl (mVar 0) (mPart (mVar 1)) (mPart (mVar 2))) (mNil)))) (sRetN) (sNil)) (sFor (mRng2 (mCons (mVar 1) (mCons (mVar 2) (mNil)))) (gSet 3) [3] (sIf (mNotT (mTru (mCallP F_is_clean (mCons (mBin (o2 ixD) (mVar 0) (mVar 3)) (mNil))))) (sRaise "BadPlain" fx_BadPlain (mCons (mVar 3) (mNil))) (sNil)))
noncomputable def F_u_look := runP 3 4 m_u_look
theorem k_u_look {P : Program} {w : World} {K : PySem.W.Frag} {mg : Str → Option Value} {base : Heap} (nb : Nb mg) (gl : Gs K mg) (hs : Has K mg "_look" s_u_look ["text", "at", "end"]) (hc_BadPlain : CE P w K mg base 1 "BadPlain" fx_BadPlain)  (h_is_clean : CP P w K mg base 1 "is_clean" F_is_clean) : CP P w K mg base 3 "_look" F_u_look :=
  cp_mk hs sc_u_look (fun cdv A outer s H E f hr B => s_cons (s_if (t_tru (d_cp h_is_clean (hr.mono (by decide)) (L2N.takes_of rfl rfl rfl rfl) (a_cons (d_sl (d_var 0) (o_some (d_var 1)) (o_some (d_var 2))) (a_nil)))) (s_one (s_retN)) (s_nil)) (s_one (s_for (passes_of rfl) rfl (i_rng2 nb.n_range (a_cons (d_var 1) (a_cons (d_var 2) (a_nil))) (fun ta => pi_range2 (by rfl) nb.n_range ta)) (g_set 3 sc_u_look.nd) (s_one (s_if (t_not (t_tru (d_cp h_is_clean (hr.mono (by decide)) (L2N.takes_of rfl rfl rfl rfl) (a_cons (d_ix (d_var 0) (d_var 3)) (a_nil))))) (s_one (s_raise hc_BadPlain (hr.mono (by decide)) (L2N.takes_of rfl rfl rfl rfl) (a_cons (d_var 3) (a_nil)))) (s_nil))))))
abbrev s_u_quoted : Stmt := topS 12
abbrev N_u_quoted : List Str := ["text", "at", "parts", "end", "slash", "sign"]
theorem sc_u_quoted : FnScope N_u_quoted ["text", "at"] (defScope s_u_quoted) := ⟨rfl, rfl, rfl, by decide +kernel, rfl, by decide +kernel, by decide +kernel⟩
noncomputable abbrev m_u_quoted : MS := sSeq (sSet 2 (mNew (mNil))) (sSeq (sSet 3 (mCallP F_u_quote (mCons (mVar 0) (mCons (mVar 1) (mNil))))) (sSeq (sSet 4 (mMth "str" (oM (tFind4)) (mVar 0) (mCons (mC (.str "\\")) (mCons (mVar 1) (mCons (mVar 3) (mNil)))))) (sSeq (sWhile (mB (mBin (o2 cmpGe) (mVar 4) (mC (.int 0)))) [5] (sSeq (sExpr (mCallP F_u_look (mCons (mVar 0) (mCons (mVar 1) (mCons (mVar 4) (mNil)))))) (sSeq (sSet 5 (mSl (mVar 0) (mPart (mBin (o2 addD) (mVar 4) (mC (.int 1)))) (mPart (mBin (o2 addD) (mVar 4) (mC (.int 2)))))) (sSeq (sIf (mB (mBin (o2 cmpNotIn) (mVar 5) (mTup (mCons (mC (.str "\\")) (mCons (mC (.str "\"")) (mCons (mC (.str "n")) (mNil))))))) (sRaise "BadPlain" fx_BadPlain (mCons (mBin (o2 addD) (mVar 4) (mC (.int 1))) (mNil))) (sNil)) (sSeq (sExpr (mMth "list" appendO (mVar 2) (mCons (mSl (mVar 0) (mPart (mVar 1)) (mPart (mVar 4))) (mNil)))) (sSeq (sExpr (mMth "list" appendO (mVar 2) (mCons (mIf (mB (mBin (o2 cmpEq) (mVar 5) (mC (.str "n")))) (mC (.str "\n")) (mVar 5)) (mNil)))) (sSeq (sSet 1 (mBin (o2 addD) (mVar 4) (mC (.int 2)))) (sSeq (sSet 3 (mCallP F_u_quote (mCons (mVar 0) (mCons (mVar 1) (mNil))))) (sSet 4 (mMth "str" (oM (tFind4)) (mVar 0) (mCons (mC (.str "\\")) (mCons (mVar 1) (mCons (mVar 3) (mNil)))))))))))))) (sSeq (sExpr (mCallP F_u_look (mCons (mVar 0) (mCons (mVar 1) (mCons (mVar 3) (mNil)))))) (sSeq (sIf (mB (mBin (o2 cmpEq) (mVar 3) (mFn lenF (mCons (mVar 0) (mNil))))) (sRaise "BadPlain" fx_BadPlain (mCons (mVar 3) (mNil))) (sNil)) (sSeq (sExpr (mMth "list" appendO (mVar 2) (mCons (mSl (mVar 0) (mPart (mVar 1)) (mPart (mVar 3))) (mNil)))) (sSeq (sFrz 2) (sRet (mTup (mCons (mMth "str" (oM (tJoin)) (mC (.str "")) (mCons (mVar 2) (mNil))) (mCons (mBin (o2 addD) (mVar 3) (mC (.int 1))) (mNil))))))))))))
noncomputable def F_u_quoted := runP 2 6 m_u_quoted
theorem k_u_quoted {P : Program} {w : World} {K : PySem.W.Frag} {mg : Str → Option Value} {base : Heap} (nb : Nb mg) (gl : Gs K mg) (hs : Has K mg "_quoted" s_u_quoted ["text", "at"]) (hc_BadPlain : CE P w K mg base 1 "BadPlain" fx_BadPlain)  (h_u_quote : CP P w K mg base 1 "_quote" F_u_quote) (h_u_look : CP P w K mg base 3 "_look" F_u_look) : CP P w K mg base 4 "_quoted" F_u_quoted :=
  cp_mk hs sc_u_quoted (fun cdv A outer s H E f hr B => s_cons (s_set 2 sc_u_quoted.nd (d_new (a_nil))) (s_cons (s_set 3 sc_u_quoted.nd (d_cp h_u_quote (hr.mono (by decide)) (L2N.takes_of rfl rfl rfl rfl) (a_cons (d_var 0) (a_cons (d_var 1) (a_nil))))) (s_cons (s_set 4 sc_u_quoted.nd (d_mth PySem.F.plainAttrs_str PySem.F.slot_str_find PySem.F.type_str_find (m_find4) (d_var 0) (a_cons (d_str) (a_cons (d_var 1) (a_cons (d_var 3) (a_nil)))))) (s_cons (s_while (passes_of rfl) (t_cmp c_ge (d_var 4) (d_int) (nomark _)) (s_cons (s_expr (d_cp h_u_look (hr.mono (by decide)) (L2N.takes_of rfl rfl rfl rfl) (a_cons (d_var 0) (a_cons (d_var 1) (a_cons (d_var 4) (a_nil)))))) (s_cons (s_set 5 sc_u_quoted.nd (d_sl (d_var 0) (o_some (d_add (d_var 4) (d_int))) (o_some (d_add (d_var 4) (d_int))))) (s_cons (s_if (t_cmp (c_notIn hr.units) (d_var 5) (d_tup (a_cons (d_str) (a_cons (d_str) (a_cons (d_str) (a_nil))))) (by rfl)) (s_one (s_raise hc_BadPlain (hr.mono (by decide)) (L2N.takes_of rfl rfl rfl rfl) (a_cons (d_add (d_var 4) (d_int)) (a_nil)))) (s_nil)) (s_cons (s_expr (d_mth PySem.F.plainAttrs_list PySem.F.slot_list_append PySem.F.type_list_append m_append (d_var 2) (a_cons (d_sl (d_var 0) (o_some (d_var 1)) (o_some (d_var 4))) (a_nil)))) (s_cons (s_expr (d_mth PySem.F.plainAttrs_list PySem.F.slot_list_append PySem.F.type_list_append m_append (d_var 2) (a_cons (d_if (t_cmp (c_eq hr.units) (d_var 5) (d_str) (nomark _)) (d_str) (d_var 5)) (a_nil)))) (s_cons (s_set 1 sc_u_quoted.nd (d_add (d_var 4) (d_int))) (s_cons (s_set 3 sc_u_quoted.nd (d_cp h_u_quote (hr.mono (by decide)) (L2N.takes_of rfl rfl rfl rfl) (a_cons (d_var 0) (a_cons (d_var 1) (a_nil))))) (s_one (s_set 4 sc_u_quoted.nd (d_mth PySem.F.plainAttrs_str PySem.F.slot_str_find PySem.F.type_str_find (m_find4) (d_var 0) (a_cons (d_str) (a_cons (d_var 1) (a_cons (d_var 3) (a_nil))))))))))))))) (s_cons (s_expr (d_cp h_u_look (hr.mono (by decide)) (L2N.takes_of rfl rfl rfl rfl) (a_cons (d_var 0) (a_cons (d_var 1) (a_cons (d_var 3) (a_nil)))))) (s_cons (s_if (t_cmp (c_eq hr.units) (d_var 3) (d_fnB f_len nb.n_len bo_len (a_cons (d_var 0) (a_nil))) (nomark _)) (s_one (s_raise hc_BadPlain (hr.mono (by decide)) (L2N.takes_of rfl rfl rfl rfl) (a_cons (d_var 3) (a_nil)))) (s_nil)) (s_cons (s_expr (d_mth PySem.F.plainAttrs_list PySem.F.slot_list_append PySem.F.type_list_append m_append (d_var 2) (a_cons (d_sl (d_var 0) (o_some (d_var 1)) (o_some (d_var 3))) (a_nil)))) (s_frz 2 (s_one (s_ret (d_tup (a_cons (d_mth PySem.F.plainAttrs_str PySem.F.slot_str_join PySem.F.type_str_join (m_join) (d_str) (a_cons (d_var 2) (a_nil))) (a_cons (d_add (d_var 3) (d_int)) (a_nil))))))))))))))
abbrev s_u_integer : Stmt := topS 15
abbrev N_u_integer : List Str := ["text", "at", "start", "ahead", "many"]
theorem sc_u_integer : FnScope N_u_integer ["text", "at"] (defScope s_u_integer) := ⟨rfl, rfl, rfl, by decide +kernel, rfl, by decide +kernel, by decide +kernel⟩
noncomputable abbrev m_u_integer : MS := sSeq (sSet 2 (mIf (mB (mBin (o2 cmpEq) (mBin (o2 ixD) (mVar 0) (mVar 1)) (mC (.str "-")))) (mBin (o2 addD) (mVar 1) (mC (.int 1))) (mVar 1))) (sSeq (sSet 3 (mSl (mVar 0) (mPart (mVar 2)) (mPart (mBin (o2 addD) (mBin (o2 addD) (mVar 2) (mC (.int 20))) (mC (.int 1)))))) (sSeq (sSet 4 (mBin (o2 subD) (mFn lenF (mCons (mVar 3) (mNil))) (mFn lenF (mCons (mMth "str" (oM (tS1 Txt.lstripChars)) (mVar 3) (mCons (mC (.str "0123456789")) (mNil))) (mNil))))) (sSeq (sIf (mB (mBin (o2 cmpEq) (mVar 4) (mC (.int 0)))) (sRaise "BadPlain" fx_BadPlain (mCons (mVar 2) (mNil))) (sNil)) (sSeq (sIf (mAndT (mB (mBin (o2 cmpEq) (mBin (o2 ixD) (mVar 3) (mC (.int 0))) (mC (.str "0")))) (mB (mBin (o2 cmpGt) (mVar 2) (mVar 1)))) (sRaise "BadPlain" fx_BadPlain (mCons (mVar 2) (mNil))) (sNil)) (sSeq (sIf (mAndT (mB (mBin (o2 cmpEq) (mBin (o2 ixD) (mVar 3) (mC (.int 0))) (mC (.str "0")))) (mB (mBin (o2 cmpGt) (mVar 4) (mC (.int 1))))) (sRaise "BadPlain" fx_BadPlain (mCons (mBin (o2 addD) (mVar 2) (mC (.int 1))) (mNil))) (sNil)) (sSeq (sIf (mB (mBin (o2 cmpGt) (mVar 4) (mC (.int 20)))) (sRaise "BadPlain" fx_BadPlain (mCons (mBin (o2 addD) (mVar 2) (mC (.int 20))) (mNil))) (sNil)) (sRet (mTup (mCons (mFn int2F (mCons (mSl (mVar 0) (mPart (mVar 1)) (mPart (mBin (o2 addD) (mVar 2) (mVar 4)))) (mNil))) (mCons (mBin (o2 addD) (mVar 2) (mVar 4)) (mNil)))))))))))
noncomputable def F_u_integer := runP 2 5 m_u_integer
theorem k_u_integer {P : Program} {w : World} {K : PySem.W.Frag} {mg : Str → Option Value} {base : Heap} (nb : Nb mg) (gl : Gs K mg) (hs : Has K mg "_integer" s_u_integer ["text", "at"]) (hc_BadPlain : CE P w K mg base 1 "BadPlain" fx_BadPlain)   : CP P w K mg base 3 "_integer" F_u_integer :=
  cp_mk hs sc_u_integer (fun cdv A outer s H E f hr B => s_cons (s_set 2 sc_u_integer.nd (d_if (t_cmp (c_eq hr.units) (d_ix (d_var 0) (d_var 1)) (d_str) (nomark _)) (d_add (d_var 1) (d_int)) (d_var 1))) (s_cons (s_set 3 sc_u_integer.nd (d_sl (d_var 0) (o_some (d_var 2)) (o_some (d_add (d_add (d_var 2) ((d_glob gl.g_MOST_DIGITS))) (d_int))))) (s_cons (s_set 4 sc_u_integer.nd (d_sub (d_fnB f_len nb.n_len bo_len (a_cons (d_var 3) (a_nil))) (d_fnB f_len nb.n_len bo_len (a_cons (d_mth PySem.F.plainAttrs_str PySem.F.slot_str_lstrip PySem.F.type_str_lstrip (m_tS1 mt_lstripChars) (d_var 3) (a_cons (d_str) (a_nil))) (a_nil))))) (s_cons (s_if (t_cmp (c_eq hr.units) (d_var 4) (d_int) (nomark _)) (s_one (s_raise hc_BadPlain (hr.mono (by decide)) (L2N.takes_of rfl rfl rfl rfl) (a_cons (d_var 2) (a_nil)))) (s_nil)) (s_cons (s_if ((t_and (t_cmp (c_eq hr.units) (d_ix (d_var 3) (d_int)) (d_str) (nomark _)) (t_and1 (t_cmp c_gt (d_var 2) (d_var 1) (nomark _)))).pt) (s_one (s_raise hc_BadPlain (hr.mono (by decide)) (L2N.takes_of rfl rfl rfl rfl) (a_cons (d_var 2) (a_nil)))) (s_nil)) (s_cons (s_if ((t_and (t_cmp (c_eq hr.units) (d_ix (d_var 3) (d_int)) (d_str) (nomark _)) (t_and1 (t_cmp c_gt (d_var 4) (d_int) (nomark _)))).pt) (s_one (s_raise hc_BadPlain (hr.mono (by decide)) (L2N.takes_of rfl rfl rfl rfl) (a_cons (d_add (d_var 2) (d_int)) (a_nil)))) (s_nil)) (s_cons (s_if (t_cmp c_gt (d_var 4) ((d_glob gl.g_MOST_DIGITS)) (nomark _)) (s_one (s_raise hc_BadPlain (hr.mono (by decide)) (L2N.takes_of rfl rfl rfl rfl) (a_cons (d_add (d_var 2) ((d_glob gl.g_MOST_DIGITS))) (a_nil)))) (s_nil)) (s_one (s_ret (d_tup (a_cons (d_fnT f_int2 nb.n_int bo_int (a_cons (d_sl (d_var 0) (o_some (d_var 1)) (o_some (d_add (d_var 2) (d_var 4)))) (a_nil))) (a_cons (d_add (d_var 2) (d_var 4)) (a_nil)))))))))))))
abbrev s_u_value : Stmt := topS 10
abbrev N_u_value : List Str := ["text", "at", "deep", "sign"]
theorem sc_u_value : FnScope N_u_value ["text", "at", "deep"] (defScope s_u_value) := ⟨rfl, rfl, rfl, by decide +kernel, rfl, by decide +kernel, by decide +kernel⟩
noncomputable abbrev m_u_value (F_u_value : List D → RP) (F_u_members : List D → RP) : MS := sSeq (sSet 3 (mSl (mVar 0) (mPart (mVar 1)) (mPart (mBin (o2 addD) (mVar 1) (mC (.int 1)))))) (sSeq (sIf (mB (mBin (o2 cmpEq) (mVar 3) (mC (.str "")))) (sRaise "BadPlain" fx_BadPlain (mCons (mVar 1) (mNil))) (sNil)) (sSeq (sIf (mB (mBin (o2 cmpEq) (mVar 3) (mC (.str "(")))) (sRet (mCallP F_u_members (mCons (mVar 0) (mCons (mVar 1) (mCons (mBin (o2 addD) (mVar 2) (mC (.int 1))) (mNil)))))) (sNil)) (sSeq (sIf (mB (mBin (o2 cmpEq) (mVar 3) (mC (.str "\"")))) (sRet (mCallP F_u_quoted (mCons (mVar 0) (mCons (mBin (o2 addD) (mVar 1) (mC (.int 1))) (mNil))))) (sNil)) (sSeq (sIf (mB (mBin (o2 cmpIn) (mVar 3) (mC (.str "-0123456789")))) (sRet (mCallP F_u_integer (mCons (mVar 0) (mCons (mVar 1) (mNil))))) (sNil)) (sSeq (sIf (mB (mBin (o2 cmpEq) (mVar 3) (mC (.str "T")))) (sRet (mTup (mCons (mC (.bl true)) (mCons (mBin (o2 addD) (mVar 1) (mC (.int 1))) (mNil))))) (sNil)) (sSeq (sIf (mB (mBin (o2 cmpEq) (mVar 3) (mC (.str "F")))) (sRet (mTup (mCons (mC (.bl false)) (mCons (mBin (o2 addD) (mVar 1) (mC (.int 1))) (mNil))))) (sNil)) (sSeq (sIf (mB (mBin (o2 cmpEq) (mVar 3) (mC (.str "N")))) (sRet (mTup (mCons (mC .non) (mCons (mBin (o2 addD) (mVar 1) (mC (.int 1))) (mNil))))) (sNil)) (sRaise "BadPlain" fx_BadPlain (mCons (mVar 1) (mNil))))))))))
noncomputable abbrev m_u_members (F_u_value : List D → RP) (F_u_members : List D → RP) : MS := sSeq (sIf (mB (mBin (o2 cmpGt) (mVar 2) (mC (.int 20)))) (sRaise "BadPlain" fx_BadPlain (mCons (mVar 1) (mNil))) (sNil)) (sSeq (sIf (mB (mBin (o2 cmpEq) (mSl (mVar 0) (mPart (mBin (o2 addD) (mVar 1) (mC (.int 1)))) (mPart (mBin (o2 addD) (mVar 1) (mC (.int 2))))) (mC (.str ")")))) (sRet (mTup (mCons (mTup (mNil)) (mCons (mBin (o2 addD) (mVar 1) (mC (.int 2))) (mNil))))) (sNil)) (sSeq (sSet 3 (mNew (mNil))) (sSeq (sSet 4 (mC (.str " "))) (sSeq (sWhile (mB (mBin (o2 cmpEq) (mVar 4) (mC (.str " ")))) [5] (sSeq (sAsg (mCallP F_u_value (mCons (mVar 0) (mCons (mBin (o2 addD) (mVar 1) (mC (.int 1))) (mCons (mVar 2) (mNil))))) (gSeqM [gSet 5, gSet 1])) (sSeq (sExpr (mMth "list" appendO (mVar 3) (mCons (mVar 5) (mNil)))) (sSet 4 (mSl (mVar 0) (mPart (mVar 1)) (mPart (mBin (o2 addD) (mVar 1) (mC (.int 1))))))))) (sSeq (sFrz 3) (sSeq (sIf (mB (mBin (o2 cmpNe) (mVar 4) (mC (.str ")")))) (sRaise "BadPlain" fx_BadPlain (mCons (mVar 1) (mNil))) (sNil)) (sRet (mTup (mCons (mFn tupleF (mCons (mVar 3) (mNil))) (mCons (mBin (o2 addD) (mVar 1) (mC (.int 1))) (mNil)))))))))))
mutual
noncomputable def F_u_value : Nat → List D → RP
  | 0 => fun _ => .bad
  | n + 1 => runP 3 4 (m_u_value (F_u_value n) (F_u_members n))
noncomputable def F_u_members : Nat → List D → RP
  | 0 => fun _ => .bad
  | n + 1 => runP 3 6 (m_u_members (F_u_value n) (F_u_members n))
end
theorem g_u_value {P : Program} {w : World} {K : PySem.W.Frag} {mg : Str → Option Value} {base : Heap} (nb : Nb mg) (gl : Gs K mg) (hs_u_value : Has K mg "_value" s_u_value ["text", "at", "deep"]) (hs_u_members : Has K mg "_members" s_u_members ["text", "at", "deep"]) (hc_BadPlain : CE P w K mg base 1 "BadPlain" fx_BadPlain)  (h_u_quoted : CP P w K mg base 4 "_quoted" F_u_quoted) (h_u_integer : CP P w K mg base 3 "_integer" F_u_integer) : ∀ n : Nat, CP P w K mg base (4 + n) "_value" (F_u_value n) ∧ CP P w K mg base (4 + n) "_members" (F_u_members n)
  | 0 => ⟨cp_bad hs_u_value, cp_bad hs_u_members⟩
  | n + 1 =>
    let ⟨h_u_value, h_u_members⟩ := g_u_value nb gl hs_u_value hs_u_members hc_BadPlain  h_u_quoted h_u_integer n
    ⟨cp_mk hs_u_value sc_u_value (fun cdv A outer s H E f hr B => s_cons (s_set 3 sc_u_value.nd (d_sl (d_var 0) (o_some (d_var 1)) (o_some (d_add (d_var 1) (d_int))))) (s_cons (s_if (t_cmp (c_eq hr.units) (d_var 3) (d_str) (nomark _)) (s_one (s_raise hc_BadPlain (hr.mono (by first | exact Nat.le_refl _ | exact Nat.le_trans (by decide) (Nat.le_add_right _ _))) (L2N.takes_of rfl rfl rfl rfl) (a_cons (d_var 1) (a_nil)))) (s_nil)) (s_cons (s_if (t_cmp (c_eq hr.units) (d_var 3) (d_str) (nomark _)) (s_one (s_ret (d_cp h_u_members (hr.mono (by first | exact Nat.le_refl _ | exact Nat.le_trans (by decide) (Nat.le_add_right _ _))) (L2N.takes_of rfl rfl rfl rfl) (a_cons (d_var 0) (a_cons (d_var 1) (a_cons (d_add (d_var 2) (d_int)) (a_nil))))))) (s_nil)) (s_cons (s_if (t_cmp (c_eq hr.units) (d_var 3) (d_str) (nomark _)) (s_one (s_ret (d_cp h_u_quoted (hr.mono (by first | exact Nat.le_refl _ | exact Nat.le_trans (by decide) (Nat.le_add_right _ _))) (L2N.takes_of rfl rfl rfl rfl) (a_cons (d_var 0) (a_cons (d_add (d_var 1) (d_int)) (a_nil)))))) (s_nil)) (s_cons (s_if (t_cmp (c_in hr.units) (d_var 3) (d_str) (by rfl)) (s_one (s_ret (d_cp h_u_integer (hr.mono (by first | exact Nat.le_refl _ | exact Nat.le_trans (by decide) (Nat.le_add_right _ _))) (L2N.takes_of rfl rfl rfl rfl) (a_cons (d_var 0) (a_cons (d_var 1) (a_nil)))))) (s_nil)) (s_cons (s_if (t_cmp (c_eq hr.units) (d_var 3) (d_str) (nomark _)) (s_one (s_ret (d_tup (a_cons (d_bl) (a_cons (d_add (d_var 1) (d_int)) (a_nil)))))) (s_nil)) (s_cons (s_if (t_cmp (c_eq hr.units) (d_var 3) (d_str) (nomark _)) (s_one (s_ret (d_tup (a_cons (d_bl) (a_cons (d_add (d_var 1) (d_int)) (a_nil)))))) (s_nil)) (s_cons (s_if (t_cmp (c_eq hr.units) (d_var 3) (d_str) (nomark _)) (s_one (s_ret (d_tup (a_cons (d_non) (a_cons (d_add (d_var 1) (d_int)) (a_nil)))))) (s_nil)) (s_one (s_raise hc_BadPlain (hr.mono (by first | exact Nat.le_refl _ | exact Nat.le_trans (by decide) (Nat.le_add_right _ _))) (L2N.takes_of rfl rfl rfl rfl) (a_cons (d_var 1) (a_nil)))))))))))), cp_mk hs_u_members sc_u_members (fun cdv A outer s H E f hr B => s_cons (s_if (t_cmp c_gt (d_var 2) ((d_glob gl.g_MOST_DEEP)) (nomark _)) (s_one (s_raise hc_BadPlain (hr.mono (by first | exact Nat.le_refl _ | exact Nat.le_trans (by decide) (Nat.le_add_right _ _))) (L2N.takes_of rfl rfl rfl rfl) (a_cons (d_var 1) (a_nil)))) (s_nil)) (s_cons (s_if (t_cmp (c_eq hr.units) (d_sl (d_var 0) (o_some (d_add (d_var 1) (d_int))) (o_some (d_add (d_var 1) (d_int)))) (d_str) (nomark _)) (s_one (s_ret (d_tup (a_cons (d_tup (a_nil)) (a_cons (d_add (d_var 1) (d_int)) (a_nil)))))) (s_nil)) (s_cons (s_set 3 sc_u_members.nd (d_new (a_nil))) (s_cons (s_set 4 sc_u_members.nd (d_str)) (s_cons (s_while (passes_of rfl) (t_cmp (c_eq hr.units) (d_var 4) (d_str) (nomark _)) (s_cons (s_asg (d_cp h_u_value (hr.mono (by first | exact Nat.le_refl _ | exact Nat.le_trans (by decide) (Nat.le_add_right _ _))) (L2N.takes_of rfl rfl rfl rfl) (a_cons (d_var 0) (a_cons (d_add (d_var 1) (d_int)) (a_cons (d_var 2) (a_nil))))) (g_seq rfl (gs_cons (g_set 5 sc_u_members.nd) (gs_cons (g_set 1 sc_u_members.nd) (gs_nil))))) (s_cons (s_expr (d_mth PySem.F.plainAttrs_list PySem.F.slot_list_append PySem.F.type_list_append m_append (d_var 3) (a_cons (d_var 5) (a_nil)))) (s_one (s_set 4 sc_u_members.nd (d_sl (d_var 0) (o_some (d_var 1)) (o_some (d_add (d_var 1) (d_int))))))))) (s_frz 3 (s_cons (s_if (t_cmp (c_ne hr.units) (d_var 4) (d_str) (nomark _)) (s_one (s_raise hc_BadPlain (hr.mono (by first | exact Nat.le_refl _ | exact Nat.le_trans (by decide) (Nat.le_add_right _ _))) (L2N.takes_of rfl rfl rfl rfl) (a_cons (d_var 1) (a_nil)))) (s_nil)) (s_one (s_ret (d_tup (a_cons (d_fnT f_tuple nb.n_tuple bo_tuple (a_cons (d_var 3) (a_nil))) (a_cons (d_add (d_var 1) (d_int)) (a_nil)))))))))))))⟩
theorem k_u_value {P : Program} {w : World} {K : PySem.W.Frag} {mg : Str → Option Value} {base : Heap} (nb : Nb mg) (gl : Gs K mg) (hs_u_value : Has K mg "_value" s_u_value ["text", "at", "deep"]) (hs_u_members : Has K mg "_members" s_u_members ["text", "at", "deep"]) (hc_BadPlain : CE P w K mg base 1 "BadPlain" fx_BadPlain)  (h_u_quoted : CP P w K mg base 4 "_quoted" F_u_quoted) (h_u_integer : CP P w K mg base 3 "_integer" F_u_integer) : CP P w K mg base 52 "_value" (F_u_value 48) := (g_u_value nb gl hs_u_value hs_u_members hc_BadPlain  h_u_quoted h_u_integer 48).1
theorem k_u_members {P : Program} {w : World} {K : PySem.W.Frag} {mg : Str → Option Value} {base : Heap} (nb : Nb mg) (gl : Gs K mg) (hs_u_value : Has K mg "_value" s_u_value ["text", "at", "deep"]) (hs_u_members : Has K mg "_members" s_u_members ["text", "at", "deep"]) (hc_BadPlain : CE P w K mg base 1 "BadPlain" fx_BadPlain)  (h_u_quoted : CP P w K mg base 4 "_quoted" F_u_quoted) (h_u_integer : CP P w K mg base 3 "_integer" F_u_integer) : CP P w K mg base 52 "_members" (F_u_members 48) := (g_u_value nb gl hs_u_value hs_u_members hc_BadPlain  h_u_quoted h_u_integer 48).2
abbrev s_read_plain : Stmt := topS 9
abbrev N_read_plain : List Str := ["text", "value", "end"]
theorem sc_read_plain : FnScope N_read_plain ["text"] (defScope s_read_plain) := ⟨rfl, rfl, rfl, by decide +kernel, rfl, by decide +kernel, by decide +kernel⟩
noncomputable abbrev m_read_plain : MS := sSeq (sAsg (mCallP (F_u_value 48) (mCons (mVar 0) (mCons (mC (.int 0)) (mCons (mC (.int 0)) (mNil))))) (gSeqM [gSet 1, gSet 2])) (sSeq (sIf (mB (mBin (o2 cmpLt) (mVar 2) (mFn lenF (mCons (mVar 0) (mNil))))) (sRaise "BadPlain" fx_BadPlain (mCons (mVar 2) (mNil))) (sNil)) (sRet (mVar 1)))
noncomputable def F_read_plain := runP 1 3 m_read_plain
theorem k_read_plain {P : Program} {w : World} {K : PySem.W.Frag} {mg : Str → Option Value} {base : Heap} (nb : Nb mg) (gl : Gs K mg) (hs : Has K mg "read_plain" s_read_plain ["text"]) (hc_BadPlain : CE P w K mg base 1 "BadPlain" fx_BadPlain)  (h_u_value : CP P w K mg base 52 "_value" (F_u_value 48)) : CP P w K mg base 53 "read_plain" F_read_plain :=
  cp_mk hs sc_read_plain (fun cdv A outer s H E f hr B => s_cons (s_asg (d_cp h_u_value (hr.mono (by decide)) (L2N.takes_of rfl rfl rfl rfl) (a_cons (d_var 0) (a_cons (d_int) (a_cons (d_int) (a_nil))))) (g_seq rfl (gs_cons (g_set 1 sc_read_plain.nd) (gs_cons (g_set 2 sc_read_plain.nd) (gs_nil))))) (s_cons (s_if (t_cmp c_lt (d_var 2) (d_fnB f_len nb.n_len bo_len (a_cons (d_var 0) (a_nil))) (nomark _)) (s_one (s_raise hc_BadPlain (hr.mono (by decide)) (L2N.takes_of rfl rfl rfl rfl) (a_cons (d_var 2) (a_nil)))) (s_nil)) (s_one (s_ret (d_var 1)))))
abbrev s_u_law_cell : Stmt := topS 17
abbrev N_u_law_cell : List Str := ["script", "k"]
theorem sc_u_law_cell : FnScope N_u_law_cell ["script", "k"] (defScope s_u_law_cell) := ⟨rfl, rfl, rfl, by decide +kernel, rfl, by decide +kernel, by decide +kernel⟩
noncomputable abbrev m_u_law_cell : MS := sSeq (sIf (mB (mBin (o2 cmpLt) (mVar 1) (mFn lenF (mCons (mVar 0) (mNil))))) (sRet (mBin (o2 ixD) (mVar 0) (mVar 1))) (sNil)) (sRet (mC (.int 0)))
noncomputable def F_u_law_cell := runP 2 2 m_u_law_cell
theorem k_u_law_cell {P : Program} {w : World} {K : PySem.W.Frag} {mg : Str → Option Value} {base : Heap} (nb : Nb mg) (gl : Gs K mg) (hs : Has K mg "_law_cell" s_u_law_cell ["script", "k"])    : CP P w K mg base 1 "_law_cell" F_u_law_cell :=
  cp_mk hs sc_u_law_cell (fun cdv A outer s H E f hr B => s_cons (s_if (t_cmp c_lt (d_var 1) (d_fnB f_len nb.n_len bo_len (a_cons (d_var 0) (a_nil))) (nomark _)) (s_one (s_ret (d_ix (d_var 0) (d_var 1)))) (s_nil)) (s_one (s_ret (d_int))))
abbrev s_u_law_digits : Stmt := topS 18
abbrev N_u_law_digits : List Str := ["script", "first", "last", "digits", "k", "cell", "turn", "seed"]
theorem sc_u_law_digits : FnScope N_u_law_digits ["script", "first", "last"] (defScope s_u_law_digits) := ⟨rfl, rfl, rfl, by decide +kernel, rfl, by decide +kernel, by decide +kernel⟩
noncomputable abbrev m_u_law_digits : MS := sSeq (sSet 3 (mNew (mNil))) (sSeq (sFor (mRng2 (mCons (mVar 1) (mCons (mVar 2) (mNil)))) (gSet 4) [5, 4, 7, 6] (sSeq (sIf (mB (mBin (o2 cmpGt) (mFn lenF (mCons (mVar 3) (mNil))) (mC (.int 1500)))) (sBreak) (sNil)) (sSeq (sSet 5 (mCallP F_u_law_cell (mCons (mVar 0) (mCons (mVar 4) (mNil))))) (sSeq (sIf (mB (mBin (o2 cmpLt) (mVar 5) (mC (.int 0)))) (sSet 5 (mBin (o2 subD) (mC (.int 1)) (mBin (o2 mulD) (mC (.int 2)) (mVar 5)))) (sNil)) (sIf (mB (mBin (o2 cmpGe) (mVar 5) (mBin (o2 powD) (mC (.int 10)) (mC (.int 18))))) (sFor (mRng1 (mCons (mC (.int 60)) (mNil))) (gSet 6) [6] (sIf (mB (mBin (o2 cmpGt) (mVar 5) (mC (.int 0)))) (sSeq (sExpr (mMth "list" appendO (mVar 3) (mCons (mBin (o2 modD) (mFn int2F (mCons (mVar 5) (mNil))) (mC (.int 1000))) (mNil)))) (sSet 5 (mBin (o2 fdivD) (mVar 5) (mC (.int 1000))))) (sNil))) (sSeq (sSet 7 (mBin (o2 modD) (mFn int2F (mCons (mBin (o2 addD) (mBin (o2 addD) (mBin (o2 mulD) (mVar 5) (mC (.int 48271))) (mBin (o2 mulD) (mVar 4) (mC (.int 69621)))) (mC (.int 11))) (mNil))) (mC (.int 2147483647)))) (sFor (mRng1 (mCons (mC (.int 12)) (mNil))) (gSet 6) [6] (sSeq (sSet 7 (mBin (o2 modD) (mFn int2F (mCons (mBin (o2 addD) (mBin (o2 addD) (mBin (o2 mulD) (mVar 7) (mC (.int 16807))) (mBin (o2 mulD) (mC (.int 7)) (mVar 6))) (mC (.int 1))) (mNil))) (mC (.int 2147483647)))) (sExpr (mMth "list" appendO (mVar 3) (mCons (mBin (o2 modD) (mFn int2F (mCons (mBin (o2 fdivD) (mVar 7) (mC (.int 997))) (mNil))) (mC (.int 1000))) (mNil)))))))))))) (sSeq (sFrz 3) (sRet (mVar 3))))
noncomputable def F_u_law_digits := runP 3 8 m_u_law_digits
theorem k_u_law_digits {P : Program} {w : World} {K : PySem.W.Frag} {mg : Str → Option Value} {base : Heap} (nb : Nb mg) (gl : Gs K mg) (hs : Has K mg "_law_digits" s_u_law_digits ["script", "first", "last"])   (h_u_law_cell : CP P w K mg base 1 "_law_cell" F_u_law_cell) : CP P w K mg base 2 "_law_digits" F_u_law_digits :=
  cp_mk hs sc_u_law_digits (fun cdv A outer s H E f hr B => s_cons (s_set 3 sc_u_law_digits.nd (d_new (a_nil))) (s_cons (s_for (passes_of rfl) rfl (i_rng2 nb.n_range (a_cons (d_var 1) (a_cons (d_var 2) (a_nil))) (fun ta => pi_range2 (by rfl) nb.n_range ta)) (g_set 4 sc_u_law_digits.nd) (s_cons (s_if (t_cmp c_gt (d_fnB f_len nb.n_len bo_len (a_cons (d_var 3) (a_nil))) (d_int) (nomark _)) (s_one (s_break)) (s_nil)) (s_cons (s_set 5 sc_u_law_digits.nd (d_cp h_u_law_cell (hr.mono (by decide)) (L2N.takes_of rfl rfl rfl rfl) (a_cons (d_var 0) (a_cons (d_var 4) (a_nil))))) (s_cons (s_if (t_cmp c_lt (d_var 5) (d_int) (nomark _)) (s_one (s_set 5 sc_u_law_digits.nd (d_sub (d_int) (d_mul (d_int) (d_var 5))))) (s_nil)) (s_one (s_if (t_cmp c_ge (d_var 5) (d_pow (d_int) (d_int)) (nomark _)) (s_one (s_for (passes_of rfl) rfl (i_rng1 nb.n_range (a_cons (d_int) (a_nil)) (fun ta => pi_range1 (by rfl) nb.n_range ta)) (g_set 6 sc_u_law_digits.nd) (s_one (s_if (t_cmp c_gt (d_var 5) (d_int) (nomark _)) (s_cons (s_expr (d_mth PySem.F.plainAttrs_list PySem.F.slot_list_append PySem.F.type_list_append m_append (d_var 3) (a_cons (d_mod (d_fnT f_int2 nb.n_int bo_int (a_cons (d_var 5) (a_nil))) (d_int)) (a_nil)))) (s_one (s_set 5 sc_u_law_digits.nd (d_fdiv (d_var 5) (d_int))))) (s_nil))))) (s_cons (s_set 7 sc_u_law_digits.nd (d_mod (d_fnT f_int2 nb.n_int bo_int (a_cons (d_add (d_add (d_mul (d_var 5) (d_int)) (d_mul (d_var 4) (d_int))) (d_int)) (a_nil))) (d_int))) (s_one (s_for (passes_of rfl) rfl (i_rng1 nb.n_range (a_cons (d_int) (a_nil)) (fun ta => pi_range1 (by rfl) nb.n_range ta)) (g_set 6 sc_u_law_digits.nd) (s_cons (s_set 7 sc_u_law_digits.nd (d_mod (d_fnT f_int2 nb.n_int bo_int (a_cons (d_add (d_add (d_mul (d_var 7) (d_int)) (d_mul (d_int) (d_var 6))) (d_int)) (a_nil))) (d_int))) (s_one (s_expr (d_mth PySem.F.plainAttrs_list PySem.F.slot_list_append PySem.F.type_list_append m_append (d_var 3) (a_cons (d_mod (d_fnT f_int2 nb.n_int bo_int (a_cons (d_fdiv (d_var 7) (d_int)) (a_nil))) (d_int)) (a_nil))))))))))))))) (s_frz 3 (s_one (s_ret (d_var 3))))))
abbrev s_u_law_draw : Stmt := topS 19
abbrev N_u_law_draw : List Str := ["box", "many", "at"]
theorem sc_u_law_draw : FnScope N_u_law_draw ["box", "many"] (defScope s_u_law_draw) := ⟨rfl, rfl, rfl, by decide +kernel, rfl, by decide +kernel, by decide +kernel⟩
noncomputable abbrev m_u_law_draw : MS := sSeq (sSet 2 (mBin (o2 ixD) (mVar 0) (mC (.int 1)))) (sSeq (sAsg (mBin (o2 addD) (mVar 2) (mC (.int 1))) (gSub (mVar 0) (mC (.int 1)))) (sSeq (sIf (mB (mBin (o2 cmpLt) (mVar 2) (mFn lenF (mCons (mBin (o2 ixD) (mVar 0) (mC (.int 0))) (mNil))))) (sRet (mBin (o2 modD) (mFn int2F (mCons (mBin (o2 ixD) (mBin (o2 ixD) (mVar 0) (mC (.int 0))) (mVar 2)) (mNil))) (mVar 1))) (sNil)) (sRet (mBin (o2 modD) (mFn int2F (mCons (mBin (o2 mulD) (mVar 2) (mC (.int 7))) (mNil))) (mVar 1)))))
noncomputable def F_u_law_draw := runS 2 3 m_u_law_draw
theorem k_u_law_draw {P : Program} {w : World} {K : PySem.W.Frag} {mg : Str → Option Value} {base : Heap} (nb : Nb mg) (gl : Gs K mg) (hs : Has K mg "_law_draw" s_u_law_draw ["box", "many"])    : CS P w K mg base 1 "_law_draw" F_u_law_draw :=
  cs_mk hs sc_u_law_draw (fun cdv A outer s H E f hr B => s_cons (s_set 2 sc_u_law_draw.nd (d_ix (d_var 0) (d_int))) (s_cons (s_asg (d_add (d_var 2) (d_int)) (g_sub (d_var 0) (d_int))) (s_cons (s_if (t_cmp c_lt (d_var 2) (d_fnB f_len nb.n_len bo_len (a_cons (d_ix (d_var 0) (d_int)) (a_nil))) (nomark _)) (s_one (s_ret (d_mod (d_fnT f_int2 nb.n_int bo_int (a_cons (d_ix (d_ix (d_var 0) (d_int)) (d_var 2)) (a_nil))) (d_var 1)))) (s_nil)) (s_one (s_ret (d_mod (d_fnT f_int2 nb.n_int bo_int (a_cons (d_mul (d_var 2) (d_int)) (a_nil))) (d_var 1)))))))
abbrev s_u_law_same : Stmt := topS 20
abbrev N_u_law_same : List Str := ["actual", "due", "k"]
theorem sc_u_law_same : FnScope N_u_law_same ["actual", "due"] (defScope s_u_law_same) := ⟨rfl, rfl, rfl, by decide +kernel, rfl, by decide +kernel, by decide +kernel⟩
noncomputable abbrev m_u_law_same (F_u_law_same : List D → RP) : MS := sSeq (sIf (mTru (mUn (o1 (isiD "tuple")) (mVar 1))) (sSeq (sIf (mOrT (mNotT (mTru (mUn (o1 (isiD "tuple")) (mVar 0)))) (mB (mBin (o2 cmpNe) (mFn lenF (mCons (mVar 0) (mNil))) (mFn lenF (mCons (mVar 1) (mNil)))))) (sRet (mC (.bl false))) (sNil)) (sSeq (sFor (mRng1 (mCons (mFn lenF (mCons (mVar 1) (mNil))) (mNil))) (gSet 2) [2] (sIf (mNotT (mTru (mCallP F_u_law_same (mCons (mBin (o2 ixD) (mVar 0) (mVar 2)) (mCons (mBin (o2 ixD) (mVar 1) (mVar 2)) (mNil)))))) (sRet (mC (.bl false))) (sNil))) (sRet (mC (.bl true))))) (sNil)) (sSeq (sIf (mB (mBin (o2 cmpIs) (mVar 1) (mC .non))) (sRet (mBin (o2 cmpIs) (mVar 0) (mC .non))) (sNil)) (sSeq (sIf (mB (mBin (o2 cmpIs) (mVar 1) (mC (.bl true)))) (sRet (mBin (o2 cmpIs) (mVar 0) (mC (.bl true)))) (sNil)) (sSeq (sIf (mB (mBin (o2 cmpIs) (mVar 1) (mC (.bl false)))) (sRet (mBin (o2 cmpIs) (mVar 0) (mC (.bl false)))) (sNil)) (sSeq (sIf (mTru (mUn (o1 (isiD "int")) (mVar 1))) (sRet (mAnd (mUn (o1 (isiD "int")) (mVar 0)) (mAnd (mNot (mUn (o1 (isiD "bool")) (mVar 0))) (mBin (o2 cmpEq) (mVar 0) (mVar 1))))) (sNil)) (sRet (mAnd (mUn (o1 (isiD "str")) (mVar 0)) (mBin (o2 cmpEq) (mVar 0) (mVar 1))))))))
noncomputable def F_u_law_same : Nat → List D → RP
  | 0 => fun _ => .bad
  | n + 1 => runP 2 3 (m_u_law_same (F_u_law_same n))
theorem g_u_law_same {P : Program} {w : World} {K : PySem.W.Frag} {mg : Str → Option Value} {base : Heap} (nb : Nb mg) (gl : Gs K mg) (hs_u_law_same : Has K mg "_law_same" s_u_law_same ["actual", "due"])    : ∀ n : Nat, CP P w K mg base (0 + n) "_law_same" (F_u_law_same n)
  | 0 => cp_bad hs_u_law_same
  | n + 1 =>
    let h_u_law_same := g_u_law_same nb gl hs_u_law_same    n
    cp_mk hs_u_law_same sc_u_law_same (fun cdv A outer s H E f hr B => s_cons (s_if (t_tru (d_isi (T := "tuple") ty_tuple nb.n_isinstance nb.n_tuple bo_tuple (d_var 1))) (s_cons (s_if ((t_or (t_not (t_tru (d_isi (T := "tuple") ty_tuple nb.n_isinstance nb.n_tuple bo_tuple (d_var 0)))) (t_or1 (t_cmp (c_ne hr.units) (d_fnB f_len nb.n_len bo_len (a_cons (d_var 0) (a_nil))) (d_fnB f_len nb.n_len bo_len (a_cons (d_var 1) (a_nil))) (nomark _)))).pt) (s_one (s_ret (d_bl))) (s_nil)) (s_cons (s_for (passes_of rfl) rfl (i_rng1 nb.n_range (a_cons (d_fnB f_len nb.n_len bo_len (a_cons (d_var 1) (a_nil))) (a_nil)) (fun ta => pi_range1 (by rfl) nb.n_range ta)) (g_set 2 sc_u_law_same.nd) (s_one (s_if (t_not (t_tru (d_cp h_u_law_same (hr.mono (by first | exact Nat.le_refl _ | exact Nat.le_trans (by decide) (Nat.le_add_right _ _))) (L2N.takes_of rfl rfl rfl rfl) (a_cons (d_ix (d_var 0) (d_var 2)) (a_cons (d_ix (d_var 1) (d_var 2)) (a_nil)))))) (s_one (s_ret (d_bl))) (s_nil)))) (s_one (s_ret (d_bl))))) (s_nil)) (s_cons (s_if (t_cmp c_is (d_var 1) (d_non) (nomark _)) (s_one (s_ret (d_cmp c_is (d_var 0) (d_non) (nomark _)))) (s_nil)) (s_cons (s_if (t_cmp c_is (d_var 1) (d_bl) (nomark _)) (s_one (s_ret (d_cmp c_is (d_var 0) (d_bl) (nomark _)))) (s_nil)) (s_cons (s_if (t_cmp c_is (d_var 1) (d_bl) (nomark _)) (s_one (s_ret (d_cmp c_is (d_var 0) (d_bl) (nomark _)))) (s_nil)) (s_cons (s_if (t_tru (d_isi (T := "int") ty_int nb.n_isinstance nb.n_int bo_int (d_var 1))) (s_one (s_ret (d_and (d_isi (T := "int") ty_int nb.n_isinstance nb.n_int bo_int (d_var 0)) (d_and (d_not (d_isi (T := "bool") ty_bool nb.n_isinstance nb.n_bool bo_bool (d_var 0))) (d_and1 (d_cmp (c_eq hr.units) (d_var 0) (d_var 1) (nomark _))))))) (s_nil)) (s_one (s_ret (d_and (d_isi (T := "str") ty_str nb.n_isinstance nb.n_str bo_str (d_var 0)) (d_and1 (d_cmp (c_eq hr.units) (d_var 0) (d_var 1) (nomark _)))))))))))
theorem k_u_law_same {P : Program} {w : World} {K : PySem.W.Frag} {mg : Str → Option Value} {base : Heap} (nb : Nb mg) (gl : Gs K mg) (hs_u_law_same : Has K mg "_law_same" s_u_law_same ["actual", "due"])    : CP P w K mg base 24 "_law_same" (F_u_law_same 24) := (g_u_law_same nb gl hs_u_law_same    24)
abbrev s_u_law_plain : Stmt := topS 21
abbrev N_u_law_plain : List Str := ["value", "one"]
theorem sc_u_law_plain : FnScope N_u_law_plain ["value"] (defScope s_u_law_plain) := ⟨rfl, rfl, rfl, by decide +kernel, rfl, by decide +kernel, by decide +kernel⟩
noncomputable abbrev m_u_law_plain (F_u_law_plain : List D → RP) : MS := sSeq (sIf (mB (mBin (o2 cmpIs) (mVar 0) (mC .non))) (sRet (mC (.str "N"))) (sNil)) (sSeq (sIf (mB (mBin (o2 cmpIs) (mVar 0) (mC (.bl true)))) (sRet (mC (.str "T"))) (sNil)) (sSeq (sIf (mB (mBin (o2 cmpIs) (mVar 0) (mC (.bl false)))) (sRet (mC (.str "F"))) (sNil)) (sSeq (sIf (mTru (mUn (o1 (isiD "int")) (mVar 0))) (sRet (mFn strF (mCons (mVar 0) (mNil)))) (sNil)) (sSeq (sIf (mTru (mUn (o1 (isiD "tuple")) (mVar 0))) (sRet (mBin (o2 addD) (mBin (o2 addD) (mC (.str "(")) (mMth "str" (oM (tJoin)) (mC (.str " ")) (mCons (mLc (mItems (mVar 0)) [1] (gSet 1) (mYes) (mCallP F_u_law_plain (mCons (mVar 1) (mNil)))) (mNil)))) (mC (.str ")")))) (sNil)) (sRet (mBin (o2 addD) (mBin (o2 addD) (mC (.str "\"")) (mUn (o1 (replD "\n" "\\n")) (mUn (o1 (replD "\"" "\\\"")) (mUn (o1 (replD "\\" "\\\\")) (mVar 0))))) (mC (.str "\""))))))))
noncomputable def F_u_law_plain : Nat → List D → RP
  | 0 => fun _ => .bad
  | n + 1 => runP 1 2 (m_u_law_plain (F_u_law_plain n))
theorem g_u_law_plain {P : Program} {w : World} {K : PySem.W.Frag} {mg : Str → Option Value} {base : Heap} (nb : Nb mg) (gl : Gs K mg) (hs_u_law_plain : Has K mg "_law_plain" s_u_law_plain ["value"])    : ∀ n : Nat, CP P w K mg base (0 + n) "_law_plain" (F_u_law_plain n)
  | 0 => cp_bad hs_u_law_plain
  | n + 1 =>
    let h_u_law_plain := g_u_law_plain nb gl hs_u_law_plain    n
    cp_mkT hs_u_law_plain sc_u_law_plain (by decide +kernel) (by decide) (fun cdv A outer s H E f hr B => sT_cons (sT_of (s_if (t_cmp c_is (d_var 0) (d_non) (nomark _)) (s_one (s_ret (d_str))) (s_nil))) (sT_cons (sT_of (s_if (t_cmp c_is (d_var 0) (d_bl) (nomark _)) (s_one (s_ret (d_str))) (s_nil))) (sT_cons (sT_of (s_if (t_cmp c_is (d_var 0) (d_bl) (nomark _)) (s_one (s_ret (d_str))) (s_nil))) (sT_cons (sT_of (s_if (t_tru (d_isi (T := "int") ty_int nb.n_isinstance nb.n_int bo_int (d_var 0))) (s_one (s_ret (d_fnT f_str nb.n_str bo_str (a_cons (d_var 0) (a_nil))))) (s_nil))) (sT_cons (sT_of (s_if (t_tru (d_isi (T := "tuple") ty_tuple nb.n_isinstance nb.n_tuple bo_tuple (d_var 0))) (s_one (s_ret (d_add (d_add (d_str) (d_mth PySem.F.plainAttrs_str PySem.F.slot_str_join PySem.F.type_str_join (m_join) (d_str) (a_cons (d_lc (own := [(("one" : Str), 1)]) rfl sc_u_law_plain.nd (i_items (d_var 0)) (blkOk_by (N := N_u_law_plain) (sc := defScope s_u_law_plain) (by decide +kernel)) (fun _ _ _ _ _ _ => g_set 1 sc_u_law_plain.nd) (fun _ _ _ _ _ => ts_nil) (fun _ _ _ _ _ _ => d_cp h_u_law_plain (hr.mono (by first | exact Nat.le_refl _ | exact Nat.le_trans (by decide) (Nat.le_add_right _ _))) takes0N (a_cons (d_var 1) (a_nil)))) (a_nil)))) (d_str)))) (s_nil))) (sT_one (sT_ret (dT_add (dT_add (eT_of (d_str)) (dT_replT (dT_replT (dT_replC (d_var 0))))) (eT_of (d_str))))))))))
theorem k_u_law_plain {P : Program} {w : World} {K : PySem.W.Frag} {mg : Str → Option Value} {base : Heap} (nb : Nb mg) (gl : Gs K mg) (hs_u_law_plain : Has K mg "_law_plain" s_u_law_plain ["value"])    : CP P w K mg base 8 "_law_plain" (F_u_law_plain 8) := (g_u_law_plain nb gl hs_u_law_plain    8)
abbrev s_u_law_text_at : Stmt := topS 22
abbrev N_u_law_text_at : List Str := ["text", "at", "found", "turn", "sign"]
theorem sc_u_law_text_at : FnScope N_u_law_text_at ["text", "at"] (defScope s_u_law_text_at) := ⟨rfl, rfl, rfl, by decide +kernel, rfl, by decide +kernel, by decide +kernel⟩
noncomputable abbrev m_u_law_text_at : MS := sSeq (sSet 2 (mC (.str ""))) (sSeq (sFor (mRng1 (mCons (mBin (o2 addD) (mFn lenF (mCons (mVar 0) (mNil))) (mC (.int 1))) (mNil))) (gSet 3) [4, 3] (sSeq (sIf (mB (mBin (o2 cmpGe) (mVar 1) (mFn lenF (mCons (mVar 0) (mNil))))) (sRet (mLst (mCons (mFn lenF (mCons (mVar 0) (mNil))) (mCons (mUn (o1 negD) (mC (.int 1))) (mNil))))) (sNil)) (sSeq (sSet 4 (mBin (o2 ixD) (mVar 0) (mVar 1))) (sSeq (sIf (mB (mBin (o2 cmpEq) (mVar 4) (mC (.str "\"")))) (sRet (mLst (mCons (mVar 2) (mCons (mBin (o2 addD) (mVar 1) (mC (.int 1))) (mNil))))) (sNil)) (sIf (mB (mBin (o2 cmpEq) (mVar 4) (mC (.str "\\")))) (sSeq (sIf (mB (mBin (o2 cmpGe) (mBin (o2 addD) (mVar 1) (mC (.int 1))) (mFn lenF (mCons (mVar 0) (mNil))))) (sRet (mLst (mCons (mFn lenF (mCons (mVar 0) (mNil))) (mCons (mUn (o1 negD) (mC (.int 1))) (mNil))))) (sNil)) (sSeq (sIf (mB (mBin (o2 cmpNotIn) (mBin (o2 ixD) (mVar 0) (mBin (o2 addD) (mVar 1) (mC (.int 1)))) (mC (.str "\\\"n")))) (sRet (mLst (mCons (mBin (o2 addD) (mVar 1) (mC (.int 1))) (mCons (mUn (o1 negD) (mC (.int 1))) (mNil))))) (sNil)) (sSeq (sSet 2 (mBin (o2 addD) (mVar 2) (mBin (o2 (dgetD ([("n", .str "\n")] : List (Str × D)))) (mBin (o2 ixD) (mVar 0) (mBin (o2 addD) (mVar 1) (mC (.int 1)))) (mBin (o2 ixD) (mVar 0) (mBin (o2 addD) (mVar 1) (mC (.int 1))))))) (sSet 1 (mBin (o2 addD) (mVar 1) (mC (.int 2))))))) (sIf (mOrT (mB (mBin (o2 cmpLt) (mVar 4) (mC (.str " ")))) (mOrT (mB (mBin (o2 cmpGt) (mVar 4) (mC (.str "~")))) (mB (mBin (o2 cmpEq) (mFn ordF (mCons (mVar 4) (mNil))) (mC (.int 37)))))) (sRet (mLst (mCons (mVar 1) (mCons (mUn (o1 negD) (mC (.int 1))) (mNil))))) (sSeq (sSet 2 (mBin (o2 addD) (mVar 2) (mVar 4))) (sSet 1 (mBin (o2 addD) (mVar 1) (mC (.int 1))))))))))) (sRet (mLst (mCons (mFn lenF (mCons (mVar 0) (mNil))) (mCons (mUn (o1 negD) (mC (.int 1))) (mNil))))))
noncomputable def F_u_law_text_at := runP 2 5 m_u_law_text_at
theorem k_u_law_text_at {P : Program} {w : World} {K : PySem.W.Frag} {mg : Str → Option Value} {base : Heap} (nb : Nb mg) (gl : Gs K mg) (hs : Has K mg "_law_text_at" s_u_law_text_at ["text", "at"])    : CP P w K mg base 1 "_law_text_at" F_u_law_text_at :=
  cp_mk hs sc_u_law_text_at (fun cdv A outer s H E f hr B => s_cons (s_set 2 sc_u_law_text_at.nd (d_str)) (s_cons (s_for (passes_of rfl) rfl (i_rng1 nb.n_range (a_cons (d_add (d_fnB f_len nb.n_len bo_len (a_cons (d_var 0) (a_nil))) (d_int)) (a_nil)) (fun ta => pi_range1 (by rfl) nb.n_range ta)) (g_set 3 sc_u_law_text_at.nd) (s_cons (s_if (t_cmp c_ge (d_var 1) (d_fnB f_len nb.n_len bo_len (a_cons (d_var 0) (a_nil))) (nomark _)) (s_one (s_ret (d_lst (a_cons (d_fnB f_len nb.n_len bo_len (a_cons (d_var 0) (a_nil))) (a_cons (d_neg (d_int)) (a_nil)))))) (s_nil)) (s_cons (s_set 4 sc_u_law_text_at.nd (d_ix (d_var 0) (d_var 1))) (s_cons (s_if (t_cmp (c_eq hr.units) (d_var 4) (d_str) (nomark _)) (s_one (s_ret (d_lst (a_cons (d_var 2) (a_cons (d_add (d_var 1) (d_int)) (a_nil)))))) (s_nil)) (s_one (s_if (t_cmp (c_eq hr.units) (d_var 4) (d_str) (nomark _)) (s_cons (s_if (t_cmp c_ge (d_add (d_var 1) (d_int)) (d_fnB f_len nb.n_len bo_len (a_cons (d_var 0) (a_nil))) (nomark _)) (s_one (s_ret (d_lst (a_cons (d_fnB f_len nb.n_len bo_len (a_cons (d_var 0) (a_nil))) (a_cons (d_neg (d_int)) (a_nil)))))) (s_nil)) (s_cons (s_if (t_cmp (c_notIn hr.units) (d_ix (d_var 0) (d_add (d_var 1) (d_int))) (d_str) (by rfl)) (s_one (s_ret (d_lst (a_cons (d_add (d_var 1) (d_int)) (a_cons (d_neg (d_int)) (a_nil)))))) (s_nil)) (s_cons (s_set 2 sc_u_law_text_at.nd (d_add (d_var 2) (d_dget2 (kvs := ([("n", .str "\n")] : List (Str × D))) (hP := (pps_cons pe_str pe_str (pps_nil))) (hu := (Nat.lt_of_le_of_lt (Nat.add_le_add_left (by decide : 1 ≤ 64) _) hr.units)) (hi := d_ix (d_var 0) (d_add (d_var 1) (d_int))) (hf := d_ix (d_var 0) (d_add (d_var 1) (d_int)))))) (s_one (s_set 1 sc_u_law_text_at.nd (d_add (d_var 1) (d_int))))))) (s_one (s_if ((t_or (t_cmp c_lt (d_var 4) (d_str) (nomark _)) (t_or (t_cmp c_gt (d_var 4) (d_str) (nomark _)) (t_or1 (t_cmp (c_eq hr.units) (d_fnB f_ord nb.n_ord bo_ord (a_cons (d_var 4) (a_nil))) (d_int) (nomark _))))).pt) (s_one (s_ret (d_lst (a_cons (d_var 1) (a_cons (d_neg (d_int)) (a_nil)))))) (s_cons (s_set 2 sc_u_law_text_at.nd (d_add (d_var 2) (d_var 4))) (s_one (s_set 1 sc_u_law_text_at.nd (d_add (d_var 1) (d_int))))))))))))) (s_one (s_ret (d_lst (a_cons (d_fnB f_len nb.n_len bo_len (a_cons (d_var 0) (a_nil))) (a_cons (d_neg (d_int)) (a_nil))))))))
abbrev s_u_law_digits_at : Stmt := topS 23
abbrev N_u_law_digits_at : List Str := ["text", "at", "start", "end", "turn"]
theorem sc_u_law_digits_at : FnScope N_u_law_digits_at ["text", "at"] (defScope s_u_law_digits_at) := ⟨rfl, rfl, rfl, by decide +kernel, rfl, by decide +kernel, by decide +kernel⟩
noncomputable abbrev m_u_law_digits_at : MS := sSeq (sSet 2 (mBin (o2 addD) (mVar 1) (mFn int2F (mCons (mBin (o2 cmpEq) (mBin (o2 ixD) (mVar 0) (mVar 1)) (mC (.str "-"))) (mNil))))) (sSeq (sIf (mB (mBin (o2 cmpGe) (mVar 2) (mFn lenF (mCons (mVar 0) (mNil))))) (sRet (mLst (mCons (mFn lenF (mCons (mVar 0) (mNil))) (mCons (mUn (o1 negD) (mC (.int 1))) (mNil))))) (sNil)) (sSeq (sIf (mB (mBin (o2 cmpNotIn) (mBin (o2 ixD) (mVar 0) (mVar 2)) (mC (.str "0123456789")))) (sRet (mLst (mCons (mVar 2) (mCons (mUn (o1 negD) (mC (.int 1))) (mNil))))) (sNil)) (sSeq (sIf (mB (mBin (o2 cmpEq) (mBin (o2 ixD) (mVar 0) (mVar 2)) (mC (.str "0")))) (sRet (mIf (mB (mBin (o2 cmpGt) (mVar 2) (mVar 1))) (mLst (mCons (mVar 2) (mCons (mUn (o1 negD) (mC (.int 1))) (mNil)))) (mLst (mCons (mC (.int 0)) (mCons (mBin (o2 addD) (mVar 2) (mC (.int 1))) (mNil)))))) (sNil)) (sSeq (sSet 3 (mVar 2)) (sSeq (sFor (mRng1 (mCons (mFn lenF (mCons (mVar 0) (mNil))) (mNil))) (gSet 4) [4] (sIf (mAndT (mB (mBin (o2 cmpLt) (mVar 3) (mFn lenF (mCons (mVar 0) (mNil))))) (mB (mBin (o2 cmpIn) (mBin (o2 ixD) (mVar 0) (mVar 3)) (mC (.str "0123456789"))))) (sSeq (sIf (mB (mBin (o2 cmpEq) (mBin (o2 subD) (mVar 3) (mVar 2)) (mC (.int 20)))) (sRet (mLst (mCons (mVar 3) (mCons (mUn (o1 negD) (mC (.int 1))) (mNil))))) (sNil)) (sSet 3 (mBin (o2 addD) (mVar 3) (mC (.int 1))))) (sNil))) (sRet (mLst (mCons (mFn int2F (mCons (mSl (mVar 0) (mPart (mVar 1)) (mPart (mVar 3))) (mNil))) (mCons (mVar 3) (mNil))))))))))
noncomputable def F_u_law_digits_at := runP 2 5 m_u_law_digits_at
theorem k_u_law_digits_at {P : Program} {w : World} {K : PySem.W.Frag} {mg : Str → Option Value} {base : Heap} (nb : Nb mg) (gl : Gs K mg) (hs : Has K mg "_law_digits_at" s_u_law_digits_at ["text", "at"])    : CP P w K mg base 1 "_law_digits_at" F_u_law_digits_at :=
  cp_mk hs sc_u_law_digits_at (fun cdv A outer s H E f hr B => s_cons (s_set 2 sc_u_law_digits_at.nd (d_add (d_var 1) (d_fnT f_int2 nb.n_int bo_int (a_cons (d_cmp (c_eq hr.units) (d_ix (d_var 0) (d_var 1)) (d_str) (nomark _)) (a_nil))))) (s_cons (s_if (t_cmp c_ge (d_var 2) (d_fnB f_len nb.n_len bo_len (a_cons (d_var 0) (a_nil))) (nomark _)) (s_one (s_ret (d_lst (a_cons (d_fnB f_len nb.n_len bo_len (a_cons (d_var 0) (a_nil))) (a_cons (d_neg (d_int)) (a_nil)))))) (s_nil)) (s_cons (s_if (t_cmp (c_notIn hr.units) (d_ix (d_var 0) (d_var 2)) (d_str) (by rfl)) (s_one (s_ret (d_lst (a_cons (d_var 2) (a_cons (d_neg (d_int)) (a_nil)))))) (s_nil)) (s_cons (s_if (t_cmp (c_eq hr.units) (d_ix (d_var 0) (d_var 2)) (d_str) (nomark _)) (s_one (s_ret (d_if (t_cmp c_gt (d_var 2) (d_var 1) (nomark _)) (d_lst (a_cons (d_var 2) (a_cons (d_neg (d_int)) (a_nil)))) (d_lst (a_cons (d_int) (a_cons (d_add (d_var 2) (d_int)) (a_nil))))))) (s_nil)) (s_cons (s_set 3 sc_u_law_digits_at.nd (d_var 2)) (s_cons (s_for (passes_of rfl) rfl (i_rng1 nb.n_range (a_cons (d_fnB f_len nb.n_len bo_len (a_cons (d_var 0) (a_nil))) (a_nil)) (fun ta => pi_range1 (by rfl) nb.n_range ta)) (g_set 4 sc_u_law_digits_at.nd) (s_one (s_if ((t_and (t_cmp c_lt (d_var 3) (d_fnB f_len nb.n_len bo_len (a_cons (d_var 0) (a_nil))) (nomark _)) (t_and1 (t_cmp (c_in hr.units) (d_ix (d_var 0) (d_var 3)) (d_str) (by rfl)))).pt) (s_cons (s_if (t_cmp (c_eq hr.units) (d_sub (d_var 3) (d_var 2)) (d_int) (nomark _)) (s_one (s_ret (d_lst (a_cons (d_var 3) (a_cons (d_neg (d_int)) (a_nil)))))) (s_nil)) (s_one (s_set 3 sc_u_law_digits_at.nd (d_add (d_var 3) (d_int))))) (s_nil)))) (s_one (s_ret (d_lst (a_cons (d_fnT f_int2 nb.n_int bo_int (a_cons (d_sl (d_var 0) (o_some (d_var 1)) (o_some (d_var 3))) (a_nil))) (a_cons (d_var 3) (a_nil))))))))))))
abbrev s_u_law_value_at : Stmt := topS 24
abbrev N_u_law_value_at : List Str := ["text", "at", "deep", "sign", "found", "turn", "value", "end"]
theorem sc_u_law_value_at : FnScope N_u_law_value_at ["text", "at", "deep"] (defScope s_u_law_value_at) := ⟨rfl, rfl, rfl, by decide +kernel, rfl, by decide +kernel, by decide +kernel⟩
noncomputable abbrev m_u_law_value_at (F_u_law_value_at : List D → RP) : MS := sSeq (sIf (mB (mBin (o2 cmpGe) (mVar 1) (mFn lenF (mCons (mVar 0) (mNil))))) (sRet (mLst (mCons (mFn lenF (mCons (mVar 0) (mNil))) (mCons (mUn (o1 negD) (mC (.int 1))) (mNil))))) (sNil)) (sSeq (sSet 3 (mBin (o2 ixD) (mVar 0) (mVar 1))) (sSeq (sIf (mB (mBin (o2 cmpIn) (mVar 3) (mC (.str "TFN")))) (sRet (mLst (mCons (mUn (o1 (dixD ([("T", .bl true), ("F", .bl false), ("N", .non)] : List (Str × D)))) (mVar 3)) (mCons (mBin (o2 addD) (mVar 1) (mC (.int 1))) (mNil))))) (sNil)) (sSeq (sIf (mB (mBin (o2 cmpEq) (mVar 3) (mC (.str "\"")))) (sRet (mCallP F_u_law_text_at (mCons (mVar 0) (mCons (mBin (o2 addD) (mVar 1) (mC (.int 1))) (mNil))))) (sNil)) (sSeq (sIf (mB (mBin (o2 cmpIn) (mVar 3) (mC (.str "-0123456789")))) (sRet (mCallP F_u_law_digits_at (mCons (mVar 0) (mCons (mVar 1) (mNil))))) (sNil)) (sSeq (sIf (mOrT (mB (mBin (o2 cmpNe) (mVar 3) (mC (.str "(")))) (mB (mBin (o2 cmpEq) (mVar 2) (mC (.int 20))))) (sRet (mLst (mCons (mVar 1) (mCons (mUn (o1 negD) (mC (.int 1))) (mNil))))) (sNil)) (sSeq (sSet 4 (mTup (mNil))) (sSeq (sSet 1 (mBin (o2 addD) (mVar 1) (mC (.int 1)))) (sSeq (sIf (mAndT (mB (mBin (o2 cmpLt) (mVar 1) (mFn lenF (mCons (mVar 0) (mNil))))) (mB (mBin (o2 cmpEq) (mBin (o2 ixD) (mVar 0) (mVar 1)) (mC (.str ")"))))) (sRet (mLst (mCons (mTup (mNil)) (mCons (mBin (o2 addD) (mVar 1) (mC (.int 1))) (mNil))))) (sNil)) (sSeq (sFor (mRng1 (mCons (mBin (o2 addD) (mFn lenF (mCons (mVar 0) (mNil))) (mC (.int 1))) (mNil))) (gSet 5) [7, 5, 6] (sSeq (sAsg (mCallP F_u_law_value_at (mCons (mVar 0) (mCons (mVar 1) (mCons (mBin (o2 addD) (mVar 2) (mC (.int 1))) (mNil))))) (gSeqM [gSet 6, gSet 7])) (sSeq (sIf (mB (mBin (o2 cmpEq) (mVar 7) (mUn (o1 negD) (mC (.int 1))))) (sRet (mLst (mCons (mVar 6) (mCons (mUn (o1 negD) (mC (.int 1))) (mNil))))) (sNil)) (sSeq (sSet 4 (mBin (o2 addD) (mVar 4) (mTup (mCons (mVar 6) (mNil))))) (sSeq (sIf (mB (mBin (o2 cmpGe) (mVar 7) (mFn lenF (mCons (mVar 0) (mNil))))) (sRet (mLst (mCons (mFn lenF (mCons (mVar 0) (mNil))) (mCons (mUn (o1 negD) (mC (.int 1))) (mNil))))) (sNil)) (sSeq (sIf (mB (mBin (o2 cmpEq) (mBin (o2 ixD) (mVar 0) (mVar 7)) (mC (.str ")")))) (sRet (mLst (mCons (mVar 4) (mCons (mBin (o2 addD) (mVar 7) (mC (.int 1))) (mNil))))) (sNil)) (sSeq (sIf (mB (mBin (o2 cmpNe) (mBin (o2 ixD) (mVar 0) (mVar 7)) (mC (.str " ")))) (sRet (mLst (mCons (mVar 7) (mCons (mUn (o1 negD) (mC (.int 1))) (mNil))))) (sNil)) (sSet 1 (mBin (o2 addD) (mVar 7) (mC (.int 1))))))))))) (sRet (mLst (mCons (mFn lenF (mCons (mVar 0) (mNil))) (mCons (mUn (o1 negD) (mC (.int 1))) (mNil))))))))))))))
noncomputable def F_u_law_value_at : Nat → List D → RP
  | 0 => fun _ => .bad
  | n + 1 => runP 3 8 (m_u_law_value_at (F_u_law_value_at n))
theorem g_u_law_value_at {P : Program} {w : World} {K : PySem.W.Frag} {mg : Str → Option Value} {base : Heap} (nb : Nb mg) (gl : Gs K mg) (hs_u_law_value_at : Has K mg "_law_value_at" s_u_law_value_at ["text", "at", "deep"])   (h_u_law_text_at : CP P w K mg base 1 "_law_text_at" F_u_law_text_at) (h_u_law_digits_at : CP P w K mg base 1 "_law_digits_at" F_u_law_digits_at) : ∀ n : Nat, CP P w K mg base (1 + n) "_law_value_at" (F_u_law_value_at n)
  | 0 => cp_bad hs_u_law_value_at
  | n + 1 =>
    let h_u_law_value_at := g_u_law_value_at nb gl hs_u_law_value_at   h_u_law_text_at h_u_law_digits_at n
    cp_mk hs_u_law_value_at sc_u_law_value_at (fun cdv A outer s H E f hr B => s_cons (s_if (t_cmp c_ge (d_var 1) (d_fnB f_len nb.n_len bo_len (a_cons (d_var 0) (a_nil))) (nomark _)) (s_one (s_ret (d_lst (a_cons (d_fnB f_len nb.n_len bo_len (a_cons (d_var 0) (a_nil))) (a_cons (d_neg (d_int)) (a_nil)))))) (s_nil)) (s_cons (s_set 3 sc_u_law_value_at.nd (d_ix (d_var 0) (d_var 1))) (s_cons (s_if (t_cmp (c_in hr.units) (d_var 3) (d_str) (by rfl)) (s_one (s_ret (d_lst (a_cons (d_dix (kvs := ([("T", .bl true), ("F", .bl false), ("N", .non)] : List (Str × D))) (hP := (pps_cons pe_str pe_bl (pps_cons pe_str pe_bl (pps_cons pe_str pe_non (pps_nil))))) (hu := (Nat.lt_of_le_of_lt (Nat.add_le_add_left (by decide : 1 ≤ 64) _) hr.units)) (hi := d_var 3)) (a_cons (d_add (d_var 1) (d_int)) (a_nil)))))) (s_nil)) (s_cons (s_if (t_cmp (c_eq hr.units) (d_var 3) (d_str) (nomark _)) (s_one (s_ret (d_cp h_u_law_text_at (hr.mono (by first | exact Nat.le_refl _ | exact Nat.le_trans (by decide) (Nat.le_add_right _ _))) (L2N.takes_of rfl rfl rfl rfl) (a_cons (d_var 0) (a_cons (d_add (d_var 1) (d_int)) (a_nil)))))) (s_nil)) (s_cons (s_if (t_cmp (c_in hr.units) (d_var 3) (d_str) (by rfl)) (s_one (s_ret (d_cp h_u_law_digits_at (hr.mono (by first | exact Nat.le_refl _ | exact Nat.le_trans (by decide) (Nat.le_add_right _ _))) (L2N.takes_of rfl rfl rfl rfl) (a_cons (d_var 0) (a_cons (d_var 1) (a_nil)))))) (s_nil)) (s_cons (s_if ((t_or (t_cmp (c_ne hr.units) (d_var 3) (d_str) (nomark _)) (t_or1 (t_cmp (c_eq hr.units) (d_var 2) (d_int) (nomark _)))).pt) (s_one (s_ret (d_lst (a_cons (d_var 1) (a_cons (d_neg (d_int)) (a_nil)))))) (s_nil)) (s_cons (s_set 4 sc_u_law_value_at.nd (d_tup (a_nil))) (s_cons (s_set 1 sc_u_law_value_at.nd (d_add (d_var 1) (d_int))) (s_cons (s_if ((t_and (t_cmp c_lt (d_var 1) (d_fnB f_len nb.n_len bo_len (a_cons (d_var 0) (a_nil))) (nomark _)) (t_and1 (t_cmp (c_eq hr.units) (d_ix (d_var 0) (d_var 1)) (d_str) (nomark _)))).pt) (s_one (s_ret (d_lst (a_cons (d_tup (a_nil)) (a_cons (d_add (d_var 1) (d_int)) (a_nil)))))) (s_nil)) (s_cons (s_for (passes_of rfl) rfl (i_rng1 nb.n_range (a_cons (d_add (d_fnB f_len nb.n_len bo_len (a_cons (d_var 0) (a_nil))) (d_int)) (a_nil)) (fun ta => pi_range1 (by rfl) nb.n_range ta)) (g_set 5 sc_u_law_value_at.nd) (s_cons (s_asg (d_cp h_u_law_value_at (hr.mono (by first | exact Nat.le_refl _ | exact Nat.le_trans (by decide) (Nat.le_add_right _ _))) (L2N.takes_of rfl rfl rfl rfl) (a_cons (d_var 0) (a_cons (d_var 1) (a_cons (d_add (d_var 2) (d_int)) (a_nil))))) (g_seq rfl (gs_cons (g_set 6 sc_u_law_value_at.nd) (gs_cons (g_set 7 sc_u_law_value_at.nd) (gs_nil))))) (s_cons (s_if (t_cmp (c_eq hr.units) (d_var 7) (d_neg (d_int)) (nomark _)) (s_one (s_ret (d_lst (a_cons (d_var 6) (a_cons (d_neg (d_int)) (a_nil)))))) (s_nil)) (s_cons (s_set 4 sc_u_law_value_at.nd (d_add (d_var 4) (d_tup (a_cons (d_var 6) (a_nil))))) (s_cons (s_if (t_cmp c_ge (d_var 7) (d_fnB f_len nb.n_len bo_len (a_cons (d_var 0) (a_nil))) (nomark _)) (s_one (s_ret (d_lst (a_cons (d_fnB f_len nb.n_len bo_len (a_cons (d_var 0) (a_nil))) (a_cons (d_neg (d_int)) (a_nil)))))) (s_nil)) (s_cons (s_if (t_cmp (c_eq hr.units) (d_ix (d_var 0) (d_var 7)) (d_str) (nomark _)) (s_one (s_ret (d_lst (a_cons (d_var 4) (a_cons (d_add (d_var 7) (d_int)) (a_nil)))))) (s_nil)) (s_cons (s_if (t_cmp (c_ne hr.units) (d_ix (d_var 0) (d_var 7)) (d_str) (nomark _)) (s_one (s_ret (d_lst (a_cons (d_var 7) (a_cons (d_neg (d_int)) (a_nil)))))) (s_nil)) (s_one (s_set 1 sc_u_law_value_at.nd (d_add (d_var 7) (d_int))))))))))) (s_one (s_ret (d_lst (a_cons (d_fnB f_len nb.n_len bo_len (a_cons (d_var 0) (a_nil))) (a_cons (d_neg (d_int)) (a_nil))))))))))))))))
theorem k_u_law_value_at {P : Program} {w : World} {K : PySem.W.Frag} {mg : Str → Option Value} {base : Heap} (nb : Nb mg) (gl : Gs K mg) (hs_u_law_value_at : Has K mg "_law_value_at" s_u_law_value_at ["text", "at", "deep"])   (h_u_law_text_at : CP P w K mg base 1 "_law_text_at" F_u_law_text_at) (h_u_law_digits_at : CP P w K mg base 1 "_law_digits_at" F_u_law_digits_at) : CP P w K mg base 25 "_law_value_at" (F_u_law_value_at 24) := (g_u_law_value_at nb gl hs_u_law_value_at   h_u_law_text_at h_u_law_digits_at 24)
abbrev s_u_law_read : Stmt := topS 25
abbrev N_u_law_read : List Str := ["text", "value", "end"]
theorem sc_u_law_read : FnScope N_u_law_read ["text"] (defScope s_u_law_read) := ⟨rfl, rfl, rfl, by decide +kernel, rfl, by decide +kernel, by decide +kernel⟩
noncomputable abbrev m_u_law_read : MS := sSeq (sAsg (mCallP (F_u_law_value_at 24) (mCons (mVar 0) (mCons (mC (.int 0)) (mCons (mC (.int 0)) (mNil))))) (gSeqM [gSet 1, gSet 2])) (sSeq (sIf (mB (mBin (o2 cmpEq) (mVar 2) (mUn (o1 negD) (mC (.int 1))))) (sRet (mTup (mCons (mC (.str "bad")) (mCons (mVar 1) (mNil))))) (sNil)) (sRet (mIf (mB (mBin (o2 cmpEq) (mVar 2) (mFn lenF (mCons (mVar 0) (mNil))))) (mTup (mCons (mC (.str "good")) (mCons (mVar 1) (mNil)))) (mTup (mCons (mC (.str "bad")) (mCons (mVar 2) (mNil)))))))
noncomputable def F_u_law_read := runP 1 3 m_u_law_read
theorem k_u_law_read {P : Program} {w : World} {K : PySem.W.Frag} {mg : Str → Option Value} {base : Heap} (nb : Nb mg) (gl : Gs K mg) (hs : Has K mg "_law_read" s_u_law_read ["text"])   (h_u_law_value_at : CP P w K mg base 25 "_law_value_at" (F_u_law_value_at 24)) : CP P w K mg base 26 "_law_read" F_u_law_read :=
  cp_mk hs sc_u_law_read (fun cdv A outer s H E f hr B => s_cons (s_asg (d_cp h_u_law_value_at (hr.mono (by decide)) (L2N.takes_of rfl rfl rfl rfl) (a_cons (d_var 0) (a_cons (d_int) (a_cons (d_int) (a_nil))))) (g_seq rfl (gs_cons (g_set 1 sc_u_law_read.nd) (gs_cons (g_set 2 sc_u_law_read.nd) (gs_nil))))) (s_cons (s_if (t_cmp (c_eq hr.units) (d_var 2) (d_neg (d_int)) (nomark _)) (s_one (s_ret (d_tup (a_cons (d_str) (a_cons (d_var 1) (a_nil)))))) (s_nil)) (s_one (s_ret (d_if (t_cmp (c_eq hr.units) (d_var 2) (d_fnB f_len nb.n_len bo_len (a_cons (d_var 0) (a_nil))) (nomark _)) (d_tup (a_cons (d_str) (a_cons (d_var 1) (a_nil)))) (d_tup (a_cons (d_str) (a_cons (d_var 2) (a_nil)))))))))
abbrev s_u_law_told : Stmt := topS 26
abbrev N_u_law_told : List Str := ["text", "e"]
theorem sc_u_law_told : FnScope N_u_law_told ["text"] (defScope s_u_law_told) := ⟨rfl, rfl, rfl, by decide +kernel, rfl, by decide +kernel, by decide +kernel⟩
noncomputable abbrev m_u_law_told : MS := sTry (sRet (mTup (mCons (mC (.str "good")) (mCons (mCallP F_read_plain (mCons (mVar 0) (mNil))) (mNil))))) [(okT [("BadPlain", true)], some 1, fun x => sSeq (sIf (mOrT (mNotT (isX (okT [("BadPlain", true)]) x)) (mOrT (mNotT (isX (okT [("BadPlain", true)]) x)) (isX (okT [("BadPlain", false)]) x))) (sRet (mTup (mCons (mC (.str "bad")) (mCons (mUn (o1 negD) (mC (.int 5))) (mNil))))) (sNil)) (sRet (mTup (mCons (mC (.str "bad")) (mCons (fldX "BadPlain" "place" x) (mNil))))))]
noncomputable def F_u_law_told := runP 1 2 m_u_law_told
theorem k_u_law_told {P : Program} {w : World} {K : PySem.W.Frag} {mg : Str → Option Value} {base : Heap} (nb : Nb mg) (gl : Gs K mg) (hs : Has K mg "_law_told" s_u_law_told ["text"])   {c_LawError c_BadText c_BadPlain : Addr} (xc : Xc K mg c_LawError c_BadText c_BadPlain) (h_read_plain : CP P w K mg base 53 "read_plain" F_read_plain) : CP P w K mg base 54 "_law_told" F_u_law_told :=
  cp_mk hs sc_u_law_told (fun cdv A outer s H E f hr B => s_one (s_try (L2N.takes_of rfl rfl rfl rfl) (fun W pn xe tk _ => s_one (s_ret (d_tup (a_cons (d_str) (a_cons (d_cp h_read_plain (hr.mono (by decide)) tk (a_cons (d_var 0) (a_nil))) (a_nil)))))) (.as ⟨rfl, by decide, .inl xc.m_BadPlain⟩ xc.ok_BadPlain sc_u_law_told.nd rfl rfl (fun a oe cls d pn hz hf => sx_ifret (fun _ => ret_nx _) ((tx_or (tx_not (tx_is (cv := .ref c_LawError) xc.is_LawError (fun u r => r) hz hf rfl (.inl rfl) nb.n_isinstance (pe_glob (by rfl) xc.m_LawError (by rfl)))) (tx_or (tx_not (tx_is (cv := .ty "ValueError") xc.is_ValueError (fun u r => r) hz hf rfl (.inl rfl) nb.n_isinstance (pe_bltn (by rfl) nb.n_ValueError bo_ValueError (by rfl)))) (tx_or1 (tx_is (cv := .ref c_BadText) xc.is_BadText (fun u r => r) hz hf rfl (.inl rfl) nb.n_isinstance (pe_glob (by rfl) xc.m_BadText (by rfl)))))).pt) (sx_ret (ex_of (d_tup (a_cons (d_str) (a_cons (d_neg (d_int)) (a_nil)))))) (sx_ret (ex_tup (exa_cons (ex_of (d_str)) (exa_cons (ex_fld xc.f_BadPlain_place hz hf rfl (.inl rfl)) (exa_nil)))))) (.nil))))
abbrev s_u_law_value : Stmt := topS 27
abbrev N_u_law_value : List Str := ["box", "deep", "kind", "k"]
theorem sc_u_law_value : FnScope N_u_law_value ["box", "deep"] (defScope s_u_law_value) := ⟨rfl, rfl, rfl, by decide +kernel, rfl, by decide +kernel, by decide +kernel⟩
noncomputable abbrev m_u_law_value (F_u_law_value : List W → List C → R W) : MS := sSeq (sSet 2 (mCallS F_u_law_draw (mCons (mVar 0) (mCons (mC (.int 6)) (mNil))))) (sSeq (sIf (mAndT (mB (mBin (o2 cmpLt) (mVar 2) (mC (.int 3)))) (mB (mBin (o2 cmpGt) (mVar 1) (mC (.int 0))))) (sRet (mFn tupleF (mCons (mLc (mRng1 (mCons (mCallS F_u_law_draw (mCons (mVar 0) (mCons (mC (.int 4)) (mNil)))) (mNil))) [3] (gSet 3) (mYes) (mCallS F_u_law_value (mCons (mVar 0) (mCons (mBin (o2 subD) (mVar 1) (mC (.int 1))) (mNil))))) (mNil)))) (sNil)) (sRet (mBin (o2 ixD) (mLst (mCons (mC .non) (mCons (mC (.bl true)) (mCons (mC (.bl false)) (mCons (mC (.int 0)) (mCons (mUn (o1 negD) (mC (.int 7))) (mCons (mC (.int 120)) (mCons (mC (.str "")) (mCons (mC (.str "a\"b")) (mCons (mC (.str "x\ny")) (mCons (mC (.str "\\")) (mCons (mC (.str " (")) (mNil))))))))))))) (mBin (o2 modD) (mFn int2F (mCons (mCallS F_u_law_draw (mCons (mVar 0) (mCons (mC (.int 900)) (mNil)))) (mNil))) (mC (.int 11))))))
noncomputable def F_u_law_value : Nat → List W → List C → R W
  | 0 => fun _ _ => .bad
  | n + 1 => runS 2 4 (m_u_law_value (F_u_law_value n))
theorem g_u_law_value {P : Program} {w : World} {K : PySem.W.Frag} {mg : Str → Option Value} {base : Heap} (nb : Nb mg) (gl : Gs K mg) (hs_u_law_value : Has K mg "_law_value" s_u_law_value ["box", "deep"])   (h_u_law_draw : CS P w K mg base 1 "_law_draw" F_u_law_draw) : ∀ n : Nat, CS P w K mg base (1 + n) "_law_value" (F_u_law_value n)
  | 0 => cs_bad hs_u_law_value
  | n + 1 =>
    let h_u_law_value := g_u_law_value nb gl hs_u_law_value   h_u_law_draw n
    cs_mk hs_u_law_value sc_u_law_value (fun cdv A outer s H E f hr B => s_cons (s_set 2 sc_u_law_value.nd (d_cs h_u_law_draw (hr.mono (by first | exact Nat.le_refl _ | exact Nat.le_trans (by decide) (Nat.le_add_right _ _))) (L2N.takes_of rfl rfl rfl rfl) (a_cons (d_var 0) (a_cons (d_int) (a_nil))))) (s_cons (s_if ((t_and (t_cmp c_lt (d_var 2) (d_int) (nomark _)) (t_and1 (t_cmp c_gt (d_var 1) (d_int) (nomark _)))).pt) (s_one (s_ret (d_fnT f_tuple nb.n_tuple bo_tuple (a_cons (d_lc (own := [(("k" : Str), 3)]) rfl sc_u_law_value.nd (i_rng1 nb.n_range (a_cons (d_cs h_u_law_draw (hr.mono (by first | exact Nat.le_refl _ | exact Nat.le_trans (by decide) (Nat.le_add_right _ _))) (L2N.takes_of rfl rfl rfl rfl) (a_cons (d_var 0) (a_cons (d_int) (a_nil)))) (a_nil)) (fun ta => pi_range1 (by rfl) nb.n_range ta)) (blkOk_by (N := N_u_law_value) (sc := defScope s_u_law_value) (by decide +kernel)) (fun _ _ _ _ _ _ => g_set 3 sc_u_law_value.nd) (fun _ _ _ _ _ => ts_nil) (fun _ _ _ _ _ _ => d_cs h_u_law_value (hr.mono (by first | exact Nat.le_refl _ | exact Nat.le_trans (by decide) (Nat.le_add_right _ _))) takes0N (a_cons (d_var 0) (a_cons (d_sub (d_var 1) (d_int)) (a_nil))))) (a_nil))))) (s_nil)) (s_one (s_ret (d_ix (d_lst (a_cons (d_non) (a_cons (d_bl) (a_cons (d_bl) (a_cons (d_int) (a_cons (d_neg (d_int)) (a_cons (d_int) (a_cons (d_str) (a_cons (d_str) (a_cons (d_str) (a_cons (d_str) (a_cons (d_str) (a_nil))))))))))))) (d_mod (d_fnT f_int2 nb.n_int bo_int (a_cons (d_cs h_u_law_draw (hr.mono (by first | exact Nat.le_refl _ | exact Nat.le_trans (by decide) (Nat.le_add_right _ _))) (L2N.takes_of rfl rfl rfl rfl) (a_cons (d_var 0) (a_cons (d_int) (a_nil)))) (a_nil))) (d_int)))))))
theorem k_u_law_value {P : Program} {w : World} {K : PySem.W.Frag} {mg : Str → Option Value} {base : Heap} (nb : Nb mg) (gl : Gs K mg) (hs_u_law_value : Has K mg "_law_value" s_u_law_value ["box", "deep"])   (h_u_law_draw : CS P w K mg base 1 "_law_draw" F_u_law_draw) : CS P w K mg base 9 "_law_value" (F_u_law_value 8) := (g_u_law_value nb gl hs_u_law_value   h_u_law_draw 8)
abbrev s_law : Stmt := topS 28
abbrev N_law : List Str := ["script", "box", "turn", "text", "at", "sign", "changed", "great", "due"]
theorem sc_law : FnScope N_law ["script"] (defScope s_law) := ⟨rfl, rfl, rfl, by decide +kernel, rfl, by decide +kernel, by decide +kernel⟩
noncomputable abbrev m_law : MS := sSeq (sSet 1 (mNew (mCons (mCallP F_u_law_digits (mCons (mVar 0) (mCons (mC (.int 0)) (mCons (mC (.int 63)) (mNil))))) (mCons (mC (.int 0)) (mNil))))) (sSeq (sFor (mRng1 (mCons (mC (.int 6)) (mNil))) (gSet 2) [4, 6, 8, 7, 5, 3, 2] (sSeq (sSet 3 (mCallP (F_u_law_plain 8) (mCons (mCallS (F_u_law_value 8) (mCons (mVar 1) (mCons (mC (.int 3)) (mNil)))) (mNil)))) (sSeq (sSet 4 (mBin (o2 modD) (mFn int2F (mCons (mCallS F_u_law_draw (mCons (mVar 1) (mCons (mC (.int 900)) (mNil)))) (mNil))) (mBin (o2 addD) (mFn lenF (mCons (mVar 3) (mNil))) (mC (.int 1))))) (sSeq (sSet 5 (mBin (o2 ixD) (mC (.str "()\" TFN-0195\\n\nx~")) (mBin (o2 modD) (mFn int2F (mCons (mCallS F_u_law_draw (mCons (mVar 1) (mCons (mC (.int 900)) (mNil)))) (mNil))) (mC (.int 17))))) (sSeq (sSet 6 (mNew (mCons (mSl (mVar 3) (mNoPart) (mPart (mVar 4))) (mCons (mBin (o2 addD) (mSl (mVar 3) (mNoPart) (mPart (mVar 4))) (mSl (mVar 3) (mPart (mBin (o2 addD) (mVar 4) (mC (.int 1)))) (mNoPart))) (mCons (mBin (o2 addD) (mBin (o2 addD) (mSl (mVar 3) (mNoPart) (mPart (mVar 4))) (mVar 5)) (mSl (mVar 3) (mPart (mVar 4)) (mNoPart))) (mCons (mBin (o2 addD) (mBin (o2 addD) (mSl (mVar 3) (mNoPart) (mPart (mVar 4))) (mVar 5)) (mSl (mVar 3) (mPart (mBin (o2 addD) (mVar 4) (mC (.int 1)))) (mNoPart))) (mCons (mBin (o2 addD) (mVar 3) (mVar 5)) (mNil)))))))) (sSeq (sSet 7 (mLst (mCons (mBin (o2 mulSD) (mC (.str "1")) (mC (.int 21))) (mCons (mBin (o2 addD) (mC (.str "-")) (mBin (o2 mulSD) (mC (.str "9")) (mC (.int 21)))) (mCons (mBin (o2 addD) (mBin (o2 mulSD) (mC (.str "(")) (mC (.int 21))) (mBin (o2 mulSD) (mC (.str ")")) (mC (.int 21)))) (mCons (mBin (o2 addD) (mBin (o2 mulSD) (mC (.str "(")) (mC (.int 20))) (mBin (o2 mulSD) (mC (.str ")")) (mC (.int 20)))) (mCons (mC (.str "(1  2)")) (mCons (mC (.str "(1 )")) (mCons (mC (.str "( 1)")) (mCons (mC (.str "01")) (mCons (mC (.str "-0")) (mCons (mC (.str "--1")) (mCons (mC (.str "T T")) (mCons (mC (.str "\"a")) (mCons (mBin (o2 mulSD) (mC (.str "1")) (mC (.int 20))) (mCons (mBin (o2 addD) (mC (.str "-")) (mBin (o2 mulSD) (mC (.str "9")) (mC (.int 20)))) (mNil))))))))))))))))) (sSeq (sSet 6 (mNewCat (mVar 6) (mLst (mCons (mBin (o2 ixD) (mVar 7) (mBin (o2 addD) (mC (.int 4)) (mBin (o2 modD) (mFn int2F (mCons (mCallS F_u_law_draw (mCons (mVar 1) (mCons (mC (.int 900)) (mNil)))) (mNil))) (mC (.int 8))))) (mNil))))) (sSeq (sIf (mB (mBin (o2 cmpEq) (mVar 2) (mC (.int 0)))) (sAsg (mBin (o2 ixD) (mVar 7) (mBin (o2 modD) (mFn int2F (mCons (mCallS F_u_law_draw (mCons (mVar 1) (mCons (mC (.int 900)) (mNil)))) (mNil))) (mC (.int 14)))) (gSub (mVar 6) (mC (.int 5)))) (sNil)) (sSeq (sFrz 6) (sSeq (sSet 3 (mBin (o2 ixD) (mVar 6) (mCallS F_u_law_draw (mCons (mVar 1) (mCons (mC (.int 6)) (mNil)))))) (sSeq (sSet 8 (mCallP F_u_law_read (mCons (mVar 3) (mNil)))) (sIf (mNotT (mTru (mCallP (F_u_law_same 24) (mCons (mCallP F_u_law_told (mCons (mVar 3) (mNil))) (mCons (mVar 8) (mNil)))))) (sRet (mC (.bl false))) (sNil))))))))))))) (sSeq (sFrz 1) (sRet (mC (.bl true)))))
noncomputable def F_law := runP 1 9 m_law
theorem k_law {P : Program} {w : World} {K : PySem.W.Frag} {mg : Str → Option Value} {base : Heap} (nb : Nb mg) (gl : Gs K mg) (hs : Has K mg "law" s_law ["script"])   (h_u_law_digits : CP P w K mg base 2 "_law_digits" F_u_law_digits) (h_u_law_plain : CP P w K mg base 8 "_law_plain" (F_u_law_plain 8)) (h_u_law_read : CP P w K mg base 26 "_law_read" F_u_law_read) (h_u_law_value : CS P w K mg base 9 "_law_value" (F_u_law_value 8)) (h_u_law_draw : CS P w K mg base 1 "_law_draw" F_u_law_draw) (h_u_law_same : CP P w K mg base 24 "_law_same" (F_u_law_same 24)) (h_u_law_told : CP P w K mg base 54 "_law_told" F_u_law_told) : CP P w K mg base 55 "law" F_law :=
  cp_mk hs sc_law (fun cdv A outer s H E f hr B => s_cons (s_set 1 sc_law.nd (d_new (a_cons (d_cp h_u_law_digits (hr.mono (by decide)) (L2N.takes_of rfl rfl rfl rfl) (a_cons (d_var 0) (a_cons (d_int) (a_cons (d_int) (a_nil))))) (a_cons (d_int) (a_nil))))) (s_cons (s_for (passes_of rfl) rfl (i_rng1 nb.n_range (a_cons (d_int) (a_nil)) (fun ta => pi_range1 (by rfl) nb.n_range ta)) (g_set 2 sc_law.nd) (s_cons (s_set 3 sc_law.nd (d_cp h_u_law_plain (hr.mono (by decide)) (L2N.takes_of rfl rfl rfl rfl) (a_cons (d_cs h_u_law_value (hr.mono (by decide)) (L2N.takes_of rfl rfl rfl rfl) (a_cons (d_var 1) (a_cons (d_int) (a_nil)))) (a_nil)))) (s_cons (s_set 4 sc_law.nd (d_mod (d_fnT f_int2 nb.n_int bo_int (a_cons (d_cs h_u_law_draw (hr.mono (by decide)) (L2N.takes_of rfl rfl rfl rfl) (a_cons (d_var 1) (a_cons (d_int) (a_nil)))) (a_nil))) (d_add (d_fnB f_len nb.n_len bo_len (a_cons (d_var 3) (a_nil))) (d_int)))) (s_cons (s_set 5 sc_law.nd (d_ix (d_str) (d_mod (d_fnT f_int2 nb.n_int bo_int (a_cons (d_cs h_u_law_draw (hr.mono (by decide)) (L2N.takes_of rfl rfl rfl rfl) (a_cons (d_var 1) (a_cons (d_int) (a_nil)))) (a_nil))) (d_int)))) (s_cons (s_set 6 sc_law.nd (d_new (a_cons (d_sl (d_var 3) o_none (o_some (d_var 4))) (a_cons (d_add (d_sl (d_var 3) o_none (o_some (d_var 4))) (d_sl (d_var 3) (o_some (d_add (d_var 4) (d_int))) o_none)) (a_cons (d_add (d_add (d_sl (d_var 3) o_none (o_some (d_var 4))) (d_var 5)) (d_sl (d_var 3) (o_some (d_var 4)) o_none)) (a_cons (d_add (d_add (d_sl (d_var 3) o_none (o_some (d_var 4))) (d_var 5)) (d_sl (d_var 3) (o_some (d_add (d_var 4) (d_int))) o_none)) (a_cons (d_add (d_var 3) (d_var 5)) (a_nil)))))))) (s_cons (s_set 7 sc_law.nd (d_lst (a_cons (d_mulS (d_str) (d_int)) (a_cons (d_add (d_str) (d_mulS (d_str) (d_int))) (a_cons (d_add (d_mulS (d_str) (d_int)) (d_mulS (d_str) (d_int))) (a_cons (d_add (d_mulS (d_str) (d_int)) (d_mulS (d_str) (d_int))) (a_cons (d_str) (a_cons (d_str) (a_cons (d_str) (a_cons (d_str) (a_cons (d_str) (a_cons (d_str) (a_cons (d_str) (a_cons (d_str) (a_cons (d_mulS (d_str) (d_int)) (a_cons (d_add (d_str) (d_mulS (d_str) (d_int))) (a_nil))))))))))))))))) (s_cons (s_set 6 sc_law.nd (d_newcat (d_var 6) (d_lst (a_cons (d_ix (d_var 7) (d_add (d_int) (d_mod (d_fnT f_int2 nb.n_int bo_int (a_cons (d_cs h_u_law_draw (hr.mono (by decide)) (L2N.takes_of rfl rfl rfl rfl) (a_cons (d_var 1) (a_cons (d_int) (a_nil)))) (a_nil))) (d_int)))) (a_nil))))) (s_cons (s_if (t_cmp (c_eq hr.units) (d_var 2) (d_int) (nomark _)) (s_one (s_asg (d_ix (d_var 7) (d_mod (d_fnT f_int2 nb.n_int bo_int (a_cons (d_cs h_u_law_draw (hr.mono (by decide)) (L2N.takes_of rfl rfl rfl rfl) (a_cons (d_var 1) (a_cons (d_int) (a_nil)))) (a_nil))) (d_int))) (g_sub (d_var 6) (d_int)))) (s_nil)) (s_frz 6 (s_cons (s_set 3 sc_law.nd (d_ix (d_var 6) (d_cs h_u_law_draw (hr.mono (by decide)) (L2N.takes_of rfl rfl rfl rfl) (a_cons (d_var 1) (a_cons (d_int) (a_nil)))))) (s_cons (s_set 8 sc_law.nd (d_cp h_u_law_read (hr.mono (by decide)) (L2N.takes_of rfl rfl rfl rfl) (a_cons (d_var 3) (a_nil)))) (s_one (s_if (t_not (t_tru (d_cp h_u_law_same (hr.mono (by decide)) (L2N.takes_of rfl rfl rfl rfl) (a_cons (d_cp h_u_law_told (hr.mono (by decide)) (L2N.takes_of rfl rfl rfl rfl) (a_cons (d_var 3) (a_nil))) (a_cons (d_var 8) (a_nil)))))) (s_one (s_ret (d_bl))) (s_nil)))))))))))))) (s_frz 1 (s_one (s_ret (d_bl))))))
theorem ok_law {P : Program} {w : World} {K : PySem.W.Frag} {mg : Str → Option Value} {base : Heap} {f : Addr} {fd : FuncData} (nb : Nb mg) (gl : Gs K mg) (F : Fun K "law" "law" s_law f fd) (h_u_law_digits : CP P w K mg base 2 "_law_digits" F_u_law_digits) (h_u_law_plain : CP P w K mg base 8 "_law_plain" (F_u_law_plain 8)) (h_u_law_read : CP P w K mg base 26 "_law_read" F_u_law_read) (h_u_law_value : CS P w K mg base 9 "_law_value" (F_u_law_value 8)) (h_u_law_draw : CS P w K mg base 1 "_law_draw" F_u_law_draw) (h_u_law_same : CP P w K mg base 24 "_law_same" (F_u_law_same 24)) (h_u_law_told : CP P w K mg base 54 "_law_told" F_u_law_told) : FnOk P w K mg base (L2N.CX P w) 55 f fd ["script"] (spL K F_law) :=
  law_P (def_P F sc_law fun cdv A outer s H E hr B => s_cons (s_set 1 sc_law.nd (d_new (a_cons (d_cp h_u_law_digits (hr.mono (by decide)) (L2N.takes_of rfl rfl rfl rfl) (a_cons (d_var 0) (a_cons (d_int) (a_cons (d_int) (a_nil))))) (a_cons (d_int) (a_nil))))) (s_cons (s_for (passes_of rfl) rfl (i_rng1 nb.n_range (a_cons (d_int) (a_nil)) (fun ta => pi_range1 (by rfl) nb.n_range ta)) (g_set 2 sc_law.nd) (s_cons (s_set 3 sc_law.nd (d_cp h_u_law_plain (hr.mono (by decide)) (L2N.takes_of rfl rfl rfl rfl) (a_cons (d_cs h_u_law_value (hr.mono (by decide)) (L2N.takes_of rfl rfl rfl rfl) (a_cons (d_var 1) (a_cons (d_int) (a_nil)))) (a_nil)))) (s_cons (s_set 4 sc_law.nd (d_mod (d_fnT f_int2 nb.n_int bo_int (a_cons (d_cs h_u_law_draw (hr.mono (by decide)) (L2N.takes_of rfl rfl rfl rfl) (a_cons (d_var 1) (a_cons (d_int) (a_nil)))) (a_nil))) (d_add (d_fnB f_len nb.n_len bo_len (a_cons (d_var 3) (a_nil))) (d_int)))) (s_cons (s_set 5 sc_law.nd (d_ix (d_str) (d_mod (d_fnT f_int2 nb.n_int bo_int (a_cons (d_cs h_u_law_draw (hr.mono (by decide)) (L2N.takes_of rfl rfl rfl rfl) (a_cons (d_var 1) (a_cons (d_int) (a_nil)))) (a_nil))) (d_int)))) (s_cons (s_set 6 sc_law.nd (d_new (a_cons (d_sl (d_var 3) o_none (o_some (d_var 4))) (a_cons (d_add (d_sl (d_var 3) o_none (o_some (d_var 4))) (d_sl (d_var 3) (o_some (d_add (d_var 4) (d_int))) o_none)) (a_cons (d_add (d_add (d_sl (d_var 3) o_none (o_some (d_var 4))) (d_var 5)) (d_sl (d_var 3) (o_some (d_var 4)) o_none)) (a_cons (d_add (d_add (d_sl (d_var 3) o_none (o_some (d_var 4))) (d_var 5)) (d_sl (d_var 3) (o_some (d_add (d_var 4) (d_int))) o_none)) (a_cons (d_add (d_var 3) (d_var 5)) (a_nil)))))))) (s_cons (s_set 7 sc_law.nd (d_lst (a_cons (d_mulS (d_str) (d_int)) (a_cons (d_add (d_str) (d_mulS (d_str) (d_int))) (a_cons (d_add (d_mulS (d_str) (d_int)) (d_mulS (d_str) (d_int))) (a_cons (d_add (d_mulS (d_str) (d_int)) (d_mulS (d_str) (d_int))) (a_cons (d_str) (a_cons (d_str) (a_cons (d_str) (a_cons (d_str) (a_cons (d_str) (a_cons (d_str) (a_cons (d_str) (a_cons (d_str) (a_cons (d_mulS (d_str) (d_int)) (a_cons (d_add (d_str) (d_mulS (d_str) (d_int))) (a_nil))))))))))))))))) (s_cons (s_set 6 sc_law.nd (d_newcat (d_var 6) (d_lst (a_cons (d_ix (d_var 7) (d_add (d_int) (d_mod (d_fnT f_int2 nb.n_int bo_int (a_cons (d_cs h_u_law_draw (hr.mono (by decide)) (L2N.takes_of rfl rfl rfl rfl) (a_cons (d_var 1) (a_cons (d_int) (a_nil)))) (a_nil))) (d_int)))) (a_nil))))) (s_cons (s_if (t_cmp (c_eq hr.units) (d_var 2) (d_int) (nomark _)) (s_one (s_asg (d_ix (d_var 7) (d_mod (d_fnT f_int2 nb.n_int bo_int (a_cons (d_cs h_u_law_draw (hr.mono (by decide)) (L2N.takes_of rfl rfl rfl rfl) (a_cons (d_var 1) (a_cons (d_int) (a_nil)))) (a_nil))) (d_int))) (g_sub (d_var 6) (d_int)))) (s_nil)) (s_frz 6 (s_cons (s_set 3 sc_law.nd (d_ix (d_var 6) (d_cs h_u_law_draw (hr.mono (by decide)) (L2N.takes_of rfl rfl rfl rfl) (a_cons (d_var 1) (a_cons (d_int) (a_nil)))))) (s_cons (s_set 8 sc_law.nd (d_cp h_u_law_read (hr.mono (by decide)) (L2N.takes_of rfl rfl rfl rfl) (a_cons (d_var 3) (a_nil)))) (s_one (s_if (t_not (t_tru (d_cp h_u_law_same (hr.mono (by decide)) (L2N.takes_of rfl rfl rfl rfl) (a_cons (d_cp h_u_law_told (hr.mono (by decide)) (L2N.takes_of rfl rfl rfl rfl) (a_cons (d_var 3) (a_nil))) (a_cons (d_var 8) (a_nil)))))) (s_one (s_ret (d_bl))) (s_nil)))))))))))))) (s_frz 1 (s_one (s_ret (d_bl))))))
theorem all_mk {l : PySem.W.OpenLaw} {w : World} {K : PySem.W.Frag} {h : Heap} {mg : Str → Option Value} {fa : Addr} {f_is_clean : Addr} {od_is_clean an_is_clean : Option Addr} {sl_is_clean : Array (Option Value)} {oc_is_clean kV_is_clean dc_is_clean pm_is_clean cd_is_clean : Value} {ct_is_clean : Value} {f_u_members : Addr} {od_u_members an_u_members : Option Addr} {sl_u_members : Array (Option Value)} {oc_u_members kV_u_members dc_u_members pm_u_members cd_u_members : Value} {ct_u_members : Value} {f_u_quote : Addr} {od_u_quote an_u_quote : Option Addr} {sl_u_quote : Array (Option Value)} {oc_u_quote kV_u_quote dc_u_quote pm_u_quote cd_u_quote : Value} {ct_u_quote : Value} {f_u_look : Addr} {od_u_look an_u_look : Option Addr} {sl_u_look : Array (Option Value)} {oc_u_look kV_u_look dc_u_look pm_u_look cd_u_look : Value} {ct_u_look : Value} {f_u_quoted : Addr} {od_u_quoted an_u_quoted : Option Addr} {sl_u_quoted : Array (Option Value)} {oc_u_quoted kV_u_quoted dc_u_quoted pm_u_quoted cd_u_quoted : Value} {ct_u_quoted : Value} {f_u_integer : Addr} {od_u_integer an_u_integer : Option Addr} {sl_u_integer : Array (Option Value)} {oc_u_integer kV_u_integer dc_u_integer pm_u_integer cd_u_integer : Value} {ct_u_integer : Value} {f_u_value : Addr} {od_u_value an_u_value : Option Addr} {sl_u_value : Array (Option Value)} {oc_u_value kV_u_value dc_u_value pm_u_value cd_u_value : Value} {ct_u_value : Value} {f_read_plain : Addr} {od_read_plain an_read_plain : Option Addr} {sl_read_plain : Array (Option Value)} {oc_read_plain kV_read_plain dc_read_plain pm_read_plain cd_read_plain : Value} {ct_read_plain : Value} {f_u_law_cell : Addr} {od_u_law_cell an_u_law_cell : Option Addr} {sl_u_law_cell : Array (Option Value)} {oc_u_law_cell kV_u_law_cell dc_u_law_cell pm_u_law_cell cd_u_law_cell : Value} {ct_u_law_cell : Value} {f_u_law_digits : Addr} {od_u_law_digits an_u_law_digits : Option Addr} {sl_u_law_digits : Array (Option Value)} {oc_u_law_digits kV_u_law_digits dc_u_law_digits pm_u_law_digits cd_u_law_digits : Value} {ct_u_law_digits : Value} {f_u_law_draw : Addr} {od_u_law_draw an_u_law_draw : Option Addr} {sl_u_law_draw : Array (Option Value)} {oc_u_law_draw kV_u_law_draw dc_u_law_draw pm_u_law_draw cd_u_law_draw : Value} {ct_u_law_draw : Value} {f_u_law_same : Addr} {od_u_law_same an_u_law_same : Option Addr} {sl_u_law_same : Array (Option Value)} {oc_u_law_same kV_u_law_same dc_u_law_same pm_u_law_same cd_u_law_same : Value} {ct_u_law_same : Value} {f_u_law_plain : Addr} {od_u_law_plain an_u_law_plain : Option Addr} {sl_u_law_plain : Array (Option Value)} {oc_u_law_plain kV_u_law_plain dc_u_law_plain pm_u_law_plain cd_u_law_plain : Value} {ct_u_law_plain : Value} {f_u_law_text_at : Addr} {od_u_law_text_at an_u_law_text_at : Option Addr} {sl_u_law_text_at : Array (Option Value)} {oc_u_law_text_at kV_u_law_text_at dc_u_law_text_at pm_u_law_text_at cd_u_law_text_at : Value} {ct_u_law_text_at : Value} {f_u_law_digits_at : Addr} {od_u_law_digits_at an_u_law_digits_at : Option Addr} {sl_u_law_digits_at : Array (Option Value)} {oc_u_law_digits_at kV_u_law_digits_at dc_u_law_digits_at pm_u_law_digits_at cd_u_law_digits_at : Value} {ct_u_law_digits_at : Value} {f_u_law_value_at : Addr} {od_u_law_value_at an_u_law_value_at : Option Addr} {sl_u_law_value_at : Array (Option Value)} {oc_u_law_value_at kV_u_law_value_at dc_u_law_value_at pm_u_law_value_at cd_u_law_value_at : Value} {ct_u_law_value_at : Value} {f_u_law_read : Addr} {od_u_law_read an_u_law_read : Option Addr} {sl_u_law_read : Array (Option Value)} {oc_u_law_read kV_u_law_read dc_u_law_read pm_u_law_read cd_u_law_read : Value} {ct_u_law_read : Value} {f_u_law_told : Addr} {od_u_law_told an_u_law_told : Option Addr} {sl_u_law_told : Array (Option Value)} {oc_u_law_told kV_u_law_told dc_u_law_told pm_u_law_told cd_u_law_told : Value} {ct_u_law_told : Value} {f_u_law_value : Addr} {od_u_law_value an_u_law_value : Option Addr} {sl_u_law_value : Array (Option Value)} {oc_u_law_value kV_u_law_value dc_u_law_value pm_u_law_value cd_u_law_value : Value} {ct_u_law_value : Value} {f_law : Addr} {od_law an_law : Option Addr} {sl_law : Array (Option Value)} {oc_law kV_law dc_law pm_law cd_law : Value} {ct_law : Value} {t_MOST_DIGITS : Tok} {t_MOST_DEEP : Tok}  {c_LawError : Addr} {c_BadText : Addr} {c_BadPlain : Addr} {nm_BadPlain q_BadPlain : Str} {NN_BadPlain fI_BadPlain : Addr} {bs_BadPlain : List Value} {sn_BadPlain : List Str} {sub_BadPlain : List Value} {ab_BadPlain : Bool} {col_BadPlain : Option Bool} {dd_BadPlain od_BadPlain an_BadPlain : Option Addr} {m0_BadPlain m1_BadPlain m2_BadPlain m3_BadPlain m5_BadPlain : Option Value} {oc_BadPlain dc_BadPlain pm_BadPlain cd_BadPlain ct_BadPlain kV_BadPlain : Value} {sl_BadPlain : Array (Option Value)} (X : K.In h) (G : h.Ns mainGlobals mg) (hfa : mg "law" = some (.ref fa))
    (a_is_clean : PySem.W.nsIn K mainGlobals "is_clean" = some (some (.ref f_is_clean))) (l_is_clean : K.lookup f_is_clean = some ⟨oc_is_clean, od_is_clean, .func (PySem.W.fnOf "is_clean" "is_clean" (defArgs s_is_clean) (defBody s_is_clean) (defScope s_is_clean) .none kV_is_clean dc_is_clean pm_is_clean an_is_clean cd_is_clean ct_is_clean), sl_is_clean⟩) (c_is_clean : PySem.W.codeIn K cd_is_clean "is_clean" = true) (kp_is_clean : PySem.W.keepIn K (.ref f_is_clean) = true)
    (a_u_members : PySem.W.nsIn K mainGlobals "_members" = some (some (.ref f_u_members))) (l_u_members : K.lookup f_u_members = some ⟨oc_u_members, od_u_members, .func (PySem.W.fnOf "_members" "_members" (defArgs s_u_members) (defBody s_u_members) (defScope s_u_members) .none kV_u_members dc_u_members pm_u_members an_u_members cd_u_members ct_u_members), sl_u_members⟩) (c_u_members : PySem.W.codeIn K cd_u_members "_members" = true) (kp_u_members : PySem.W.keepIn K (.ref f_u_members) = true)
    (a_u_quote : PySem.W.nsIn K mainGlobals "_quote" = some (some (.ref f_u_quote))) (l_u_quote : K.lookup f_u_quote = some ⟨oc_u_quote, od_u_quote, .func (PySem.W.fnOf "_quote" "_quote" (defArgs s_u_quote) (defBody s_u_quote) (defScope s_u_quote) .none kV_u_quote dc_u_quote pm_u_quote an_u_quote cd_u_quote ct_u_quote), sl_u_quote⟩) (c_u_quote : PySem.W.codeIn K cd_u_quote "_quote" = true) (kp_u_quote : PySem.W.keepIn K (.ref f_u_quote) = true)
    (a_u_look : PySem.W.nsIn K mainGlobals "_look" = some (some (.ref f_u_look))) (l_u_look : K.lookup f_u_look = some ⟨oc_u_look, od_u_look, .func (PySem.W.fnOf "_look" "_look" (defArgs s_u_look) (defBody s_u_look) (defScope s_u_look) .none kV_u_look dc_u_look pm_u_look an_u_look cd_u_look ct_u_look), sl_u_look⟩) (c_u_look : PySem.W.codeIn K cd_u_look "_look" = true) (kp_u_look : PySem.W.keepIn K (.ref f_u_look) = true)
    (a_u_quoted : PySem.W.nsIn K mainGlobals "_quoted" = some (some (.ref f_u_quoted))) (l_u_quoted : K.lookup f_u_quoted = some ⟨oc_u_quoted, od_u_quoted, .func (PySem.W.fnOf "_quoted" "_quoted" (defArgs s_u_quoted) (defBody s_u_quoted) (defScope s_u_quoted) .none kV_u_quoted dc_u_quoted pm_u_quoted an_u_quoted cd_u_quoted ct_u_quoted), sl_u_quoted⟩) (c_u_quoted : PySem.W.codeIn K cd_u_quoted "_quoted" = true) (kp_u_quoted : PySem.W.keepIn K (.ref f_u_quoted) = true)
    (a_u_integer : PySem.W.nsIn K mainGlobals "_integer" = some (some (.ref f_u_integer))) (l_u_integer : K.lookup f_u_integer = some ⟨oc_u_integer, od_u_integer, .func (PySem.W.fnOf "_integer" "_integer" (defArgs s_u_integer) (defBody s_u_integer) (defScope s_u_integer) .none kV_u_integer dc_u_integer pm_u_integer an_u_integer cd_u_integer ct_u_integer), sl_u_integer⟩) (c_u_integer : PySem.W.codeIn K cd_u_integer "_integer" = true) (kp_u_integer : PySem.W.keepIn K (.ref f_u_integer) = true)
    (a_u_value : PySem.W.nsIn K mainGlobals "_value" = some (some (.ref f_u_value))) (l_u_value : K.lookup f_u_value = some ⟨oc_u_value, od_u_value, .func (PySem.W.fnOf "_value" "_value" (defArgs s_u_value) (defBody s_u_value) (defScope s_u_value) .none kV_u_value dc_u_value pm_u_value an_u_value cd_u_value ct_u_value), sl_u_value⟩) (c_u_value : PySem.W.codeIn K cd_u_value "_value" = true) (kp_u_value : PySem.W.keepIn K (.ref f_u_value) = true)
    (a_read_plain : PySem.W.nsIn K mainGlobals "read_plain" = some (some (.ref f_read_plain))) (l_read_plain : K.lookup f_read_plain = some ⟨oc_read_plain, od_read_plain, .func (PySem.W.fnOf "read_plain" "read_plain" (defArgs s_read_plain) (defBody s_read_plain) (defScope s_read_plain) .none kV_read_plain dc_read_plain pm_read_plain an_read_plain cd_read_plain ct_read_plain), sl_read_plain⟩) (c_read_plain : PySem.W.codeIn K cd_read_plain "read_plain" = true) (kp_read_plain : PySem.W.keepIn K (.ref f_read_plain) = true)
    (a_u_law_cell : PySem.W.nsIn K mainGlobals "_law_cell" = some (some (.ref f_u_law_cell))) (l_u_law_cell : K.lookup f_u_law_cell = some ⟨oc_u_law_cell, od_u_law_cell, .func (PySem.W.fnOf "_law_cell" "_law_cell" (defArgs s_u_law_cell) (defBody s_u_law_cell) (defScope s_u_law_cell) .none kV_u_law_cell dc_u_law_cell pm_u_law_cell an_u_law_cell cd_u_law_cell ct_u_law_cell), sl_u_law_cell⟩) (c_u_law_cell : PySem.W.codeIn K cd_u_law_cell "_law_cell" = true) (kp_u_law_cell : PySem.W.keepIn K (.ref f_u_law_cell) = true)
    (a_u_law_digits : PySem.W.nsIn K mainGlobals "_law_digits" = some (some (.ref f_u_law_digits))) (l_u_law_digits : K.lookup f_u_law_digits = some ⟨oc_u_law_digits, od_u_law_digits, .func (PySem.W.fnOf "_law_digits" "_law_digits" (defArgs s_u_law_digits) (defBody s_u_law_digits) (defScope s_u_law_digits) .none kV_u_law_digits dc_u_law_digits pm_u_law_digits an_u_law_digits cd_u_law_digits ct_u_law_digits), sl_u_law_digits⟩) (c_u_law_digits : PySem.W.codeIn K cd_u_law_digits "_law_digits" = true) (kp_u_law_digits : PySem.W.keepIn K (.ref f_u_law_digits) = true)
    (a_u_law_draw : PySem.W.nsIn K mainGlobals "_law_draw" = some (some (.ref f_u_law_draw))) (l_u_law_draw : K.lookup f_u_law_draw = some ⟨oc_u_law_draw, od_u_law_draw, .func (PySem.W.fnOf "_law_draw" "_law_draw" (defArgs s_u_law_draw) (defBody s_u_law_draw) (defScope s_u_law_draw) .none kV_u_law_draw dc_u_law_draw pm_u_law_draw an_u_law_draw cd_u_law_draw ct_u_law_draw), sl_u_law_draw⟩) (c_u_law_draw : PySem.W.codeIn K cd_u_law_draw "_law_draw" = true) (kp_u_law_draw : PySem.W.keepIn K (.ref f_u_law_draw) = true)
    (a_u_law_same : PySem.W.nsIn K mainGlobals "_law_same" = some (some (.ref f_u_law_same))) (l_u_law_same : K.lookup f_u_law_same = some ⟨oc_u_law_same, od_u_law_same, .func (PySem.W.fnOf "_law_same" "_law_same" (defArgs s_u_law_same) (defBody s_u_law_same) (defScope s_u_law_same) .none kV_u_law_same dc_u_law_same pm_u_law_same an_u_law_same cd_u_law_same ct_u_law_same), sl_u_law_same⟩) (c_u_law_same : PySem.W.codeIn K cd_u_law_same "_law_same" = true) (kp_u_law_same : PySem.W.keepIn K (.ref f_u_law_same) = true)
    (a_u_law_plain : PySem.W.nsIn K mainGlobals "_law_plain" = some (some (.ref f_u_law_plain))) (l_u_law_plain : K.lookup f_u_law_plain = some ⟨oc_u_law_plain, od_u_law_plain, .func (PySem.W.fnOf "_law_plain" "_law_plain" (defArgs s_u_law_plain) (defBody s_u_law_plain) (defScope s_u_law_plain) .none kV_u_law_plain dc_u_law_plain pm_u_law_plain an_u_law_plain cd_u_law_plain ct_u_law_plain), sl_u_law_plain⟩) (c_u_law_plain : PySem.W.codeIn K cd_u_law_plain "_law_plain" = true) (kp_u_law_plain : PySem.W.keepIn K (.ref f_u_law_plain) = true)
    (a_u_law_text_at : PySem.W.nsIn K mainGlobals "_law_text_at" = some (some (.ref f_u_law_text_at))) (l_u_law_text_at : K.lookup f_u_law_text_at = some ⟨oc_u_law_text_at, od_u_law_text_at, .func (PySem.W.fnOf "_law_text_at" "_law_text_at" (defArgs s_u_law_text_at) (defBody s_u_law_text_at) (defScope s_u_law_text_at) .none kV_u_law_text_at dc_u_law_text_at pm_u_law_text_at an_u_law_text_at cd_u_law_text_at ct_u_law_text_at), sl_u_law_text_at⟩) (c_u_law_text_at : PySem.W.codeIn K cd_u_law_text_at "_law_text_at" = true) (kp_u_law_text_at : PySem.W.keepIn K (.ref f_u_law_text_at) = true)
    (a_u_law_digits_at : PySem.W.nsIn K mainGlobals "_law_digits_at" = some (some (.ref f_u_law_digits_at))) (l_u_law_digits_at : K.lookup f_u_law_digits_at = some ⟨oc_u_law_digits_at, od_u_law_digits_at, .func (PySem.W.fnOf "_law_digits_at" "_law_digits_at" (defArgs s_u_law_digits_at) (defBody s_u_law_digits_at) (defScope s_u_law_digits_at) .none kV_u_law_digits_at dc_u_law_digits_at pm_u_law_digits_at an_u_law_digits_at cd_u_law_digits_at ct_u_law_digits_at), sl_u_law_digits_at⟩) (c_u_law_digits_at : PySem.W.codeIn K cd_u_law_digits_at "_law_digits_at" = true) (kp_u_law_digits_at : PySem.W.keepIn K (.ref f_u_law_digits_at) = true)
    (a_u_law_value_at : PySem.W.nsIn K mainGlobals "_law_value_at" = some (some (.ref f_u_law_value_at))) (l_u_law_value_at : K.lookup f_u_law_value_at = some ⟨oc_u_law_value_at, od_u_law_value_at, .func (PySem.W.fnOf "_law_value_at" "_law_value_at" (defArgs s_u_law_value_at) (defBody s_u_law_value_at) (defScope s_u_law_value_at) .none kV_u_law_value_at dc_u_law_value_at pm_u_law_value_at an_u_law_value_at cd_u_law_value_at ct_u_law_value_at), sl_u_law_value_at⟩) (c_u_law_value_at : PySem.W.codeIn K cd_u_law_value_at "_law_value_at" = true) (kp_u_law_value_at : PySem.W.keepIn K (.ref f_u_law_value_at) = true)
    (a_u_law_read : PySem.W.nsIn K mainGlobals "_law_read" = some (some (.ref f_u_law_read))) (l_u_law_read : K.lookup f_u_law_read = some ⟨oc_u_law_read, od_u_law_read, .func (PySem.W.fnOf "_law_read" "_law_read" (defArgs s_u_law_read) (defBody s_u_law_read) (defScope s_u_law_read) .none kV_u_law_read dc_u_law_read pm_u_law_read an_u_law_read cd_u_law_read ct_u_law_read), sl_u_law_read⟩) (c_u_law_read : PySem.W.codeIn K cd_u_law_read "_law_read" = true) (kp_u_law_read : PySem.W.keepIn K (.ref f_u_law_read) = true)
    (a_u_law_told : PySem.W.nsIn K mainGlobals "_law_told" = some (some (.ref f_u_law_told))) (l_u_law_told : K.lookup f_u_law_told = some ⟨oc_u_law_told, od_u_law_told, .func (PySem.W.fnOf "_law_told" "_law_told" (defArgs s_u_law_told) (defBody s_u_law_told) (defScope s_u_law_told) .none kV_u_law_told dc_u_law_told pm_u_law_told an_u_law_told cd_u_law_told ct_u_law_told), sl_u_law_told⟩) (c_u_law_told : PySem.W.codeIn K cd_u_law_told "_law_told" = true) (kp_u_law_told : PySem.W.keepIn K (.ref f_u_law_told) = true)
    (a_u_law_value : PySem.W.nsIn K mainGlobals "_law_value" = some (some (.ref f_u_law_value))) (l_u_law_value : K.lookup f_u_law_value = some ⟨oc_u_law_value, od_u_law_value, .func (PySem.W.fnOf "_law_value" "_law_value" (defArgs s_u_law_value) (defBody s_u_law_value) (defScope s_u_law_value) .none kV_u_law_value dc_u_law_value pm_u_law_value an_u_law_value cd_u_law_value ct_u_law_value), sl_u_law_value⟩) (c_u_law_value : PySem.W.codeIn K cd_u_law_value "_law_value" = true) (kp_u_law_value : PySem.W.keepIn K (.ref f_u_law_value) = true)
    (a_law : PySem.W.nsIn K mainGlobals "law" = some (some (.ref f_law))) (l_law : K.lookup f_law = some ⟨oc_law, od_law, .func (PySem.W.fnOf "law" "law" (defArgs s_law) (defBody s_law) (defScope s_law) .none kV_law dc_law pm_law an_law cd_law ct_law), sl_law⟩) (c_law : PySem.W.codeIn K cd_law "law" = true) (kp_law : PySem.W.keepIn K (.ref f_law) = true)
    (z_ValueError : PySem.W.nsIn K mainGlobals "ValueError" = some none)
    (z_bool : PySem.W.nsIn K mainGlobals "bool" = some none)
    (z_int : PySem.W.nsIn K mainGlobals "int" = some none)
    (z_isinstance : PySem.W.nsIn K mainGlobals "isinstance" = some none)
    (z_len : PySem.W.nsIn K mainGlobals "len" = some none)
    (z_ord : PySem.W.nsIn K mainGlobals "ord" = some none)
    (z_range : PySem.W.nsIn K mainGlobals "range" = some none)
    (z_str : PySem.W.nsIn K mainGlobals "str" = some none)
    (z_tuple : PySem.W.nsIn K mainGlobals "tuple" = some none)
    (e_MOST_DIGITS : PySem.W.nsIn K mainGlobals "MOST_DIGITS" = some (some (.int 20 t_MOST_DIGITS)))
    (e_MOST_DEEP : PySem.W.nsIn K mainGlobals "MOST_DEEP" = some (some (.int 20 t_MOST_DEEP)))
    (aC_LawError : PySem.W.nsIn K mainGlobals "LawError" = some (some (.ref c_LawError)))
    (aC_BadText : PySem.W.nsIn K mainGlobals "BadText" = some (some (.ref c_BadText)))
    (aC_BadPlain : PySem.W.nsIn K mainGlobals "BadPlain" = some (some (.ref c_BadPlain)))
    (bg_LawError : PySem.W.specialIn K (.ref c_LawError) "__getattribute__" = some (some (.builtin "type.__getattribute__")))
    (bt_LawError : PySem.W.typeIn K (.ref c_LawError) = some (.type "type"))
    (br_LawError : PySem.W.readsIn K c_LawError (.type "type") = true)
    (bi_LawError : PySem.W.findCls K (.ref c_LawError) (.type "type") "__init__" = some (.val (.builtin "ValueError.__init__")))
    (xL_BadPlain : K.lookup c_BadPlain = some (excClassObj nm_BadPlain q_BadPlain c_BadPlain NN_BadPlain bs_BadPlain [.ref c_LawError, .type "ValueError", .type "Exception", .type "BaseException", .type "object"] true sn_BadPlain sub_BadPlain ab_BadPlain col_BadPlain dd_BadPlain m0_BadPlain m1_BadPlain m2_BadPlain m3_BadPlain m5_BadPlain "ValueError.__new__"))
    (sa_BadPlain : PySem.W.findIn K (.ref c_BadPlain) "__setattr__" = some (some (.builtin "object.__setattr__")))
    (ga_BadPlain : PySem.W.findIn K (.ref c_BadPlain) "__getattribute__" = some (some (.builtin "BaseException.__getattribute__")))
    (gg_BadPlain : PySem.W.findIn K (.ref c_BadPlain) "__getattr__" = some none)
    (nf_BadPlain_place : PySem.W.findIn K (.ref c_BadPlain) "place" = some none)
    (iC_BadPlain : PySem.W.findIn K (.ref c_BadPlain) "__init__" = some (some (.ref fI_BadPlain)))
    (tI_BadPlain : PySem.W.typeIn K (.ref fI_BadPlain) = some (.type "function"))
    (lI_BadPlain : K.lookup fI_BadPlain = some ⟨oc_BadPlain, od_BadPlain, .func (PySem.W.fnOf "__init__" "BadPlain.__init__" (defArgs si_BadPlain) (defBody si_BadPlain) (defScope si_BadPlain) .none kV_BadPlain dc_BadPlain pm_BadPlain an_BadPlain cd_BadPlain ct_BadPlain), sl_BadPlain⟩)
    (cI_BadPlain : PySem.W.codeIn K cd_BadPlain "BadPlain.__init__" = true)
    (kI_BadPlain : PySem.W.keepIn K (.ref fI_BadPlain) = true)
    (kC_BadPlain : PySem.W.keepIn K (.ref c_BadPlain) = true)
    (eC_BadPlain : PySem.W.subIn K (.ref c_BadPlain) (.type "BaseException") = some true)
    (tC_BadPlain : PySem.W.typeIn K (.ref c_BadPlain) = some (.type "type"))
    (hC_BadPlain : PySem.W.hasDictIn K c_BadPlain = true)
    (iS_BadPlain : PySem.W.isClsIn K c_BadPlain = true)
    (eS_BadPlain : PySem.W.subIn K (.ref c_BadPlain) (.type "BaseException") = some true)
    (tS_BadPlain : PySem.W.typeIn K (.ref c_BadPlain) = some (.type "type"))
    (u_BadPlain_BadPlain : PySem.W.subIn K (.ref c_BadPlain) (.ref c_BadPlain) = some true)
    (sp_oc : PySem.W.specialIn K (.builtin "object.__class__") "__get__" = some (some (.builtin "getset_descriptor.__get__")))
    (tk_oc : PySem.W.takesIn K (.builtin "object.__class__") = some true)
    (qc_BadText : (PySem.W.clsIn K c_BadText).isSome = true)
    (qt_BadText : PySem.W.typeIn K (.ref c_BadText) = some (.type "type"))
    (qc_LawError : (PySem.W.clsIn K c_LawError).isSome = true)
    (qt_LawError : PySem.W.typeIn K (.ref c_LawError) = some (.type "type"))
    (cl_BadPlain : (PySem.W.clsIn K c_BadPlain).isSome = true)
    (cc_BadPlain : PySem.W.findIn K (.ref c_BadPlain) "__class__" = some (some (.builtin "object.__class__")))
    (mo_BadPlain : PySem.W.mroIn K c_BadPlain (.type "object") = some true)
    (sb_BadPlain_BadText : PySem.W.subIn K (.ref c_BadPlain) (.ref c_BadText) = some false)
    (ne_BadPlain_BadText : (Value.ref c_BadPlain == (.ref c_BadText)) = false)
    (sb_BadPlain_LawError : PySem.W.subIn K (.ref c_BadPlain) (.ref c_LawError) = some true)
    (sb_BadPlain_ValueError : PySem.W.subIn K (.ref c_BadPlain) (.type "ValueError") = some true) :
    ∃ fd : FuncData, (∀ (s : Shared) (v : Value), BindsTo s fd ⟨[v], []⟩ [("script", v)]) ∧ ∀ base : Heap, K.In base → base.Ns mainGlobals mg → FnOk l.prog w K mg base (L2N.CX l.prog w) 55 fa fd ["script"] (spL K F_law) := by
  have T_BadPlain : OexC K c_BadPlain := ⟨⟨nm_BadPlain, q_BadPlain, NN_BadPlain, bs_BadPlain, _, sn_BadPlain, sub_BadPlain, ab_BadPlain, col_BadPlain, dd_BadPlain, m0_BadPlain, m1_BadPlain, m2_BadPlain, m3_BadPlain, m5_BadPlain, xL_BadPlain, by first | rfl | decide⟩, sa_BadPlain, eC_BadPlain, tC_BadPlain, kC_BadPlain⟩
  have RI_BadPlain := fun_mk (st := si_BadPlain) lI_BadPlain cI_BadPlain kI_BadPlain
  have IC_BadPlain : IsC K mg "BadPlain" := ⟨c_BadPlain, PySem.W.mg_of X G aC_BadPlain, cl_BadPlain, ga_BadPlain, gg_BadPlain, eC_BadPlain, cc_BadPlain, sp_oc, tk_oc, mo_BadPlain⟩
  have ki_BadPlain_BadText := kit_c qc_BadText qt_BadText sb_BadPlain_BadText (.inr ne_BadPlain_BadText)
  have ki_BadPlain_LawError := kit_c qc_LawError qt_LawError sb_BadPlain_LawError (.inl rfl)
  have ki_BadPlain_ValueError := kit_t (T := "ValueError") (by decide +kernel) sb_BadPlain_ValueError (.inl rfl)
  have XC : Xc K mg c_LawError c_BadText c_BadPlain := ⟨PySem.W.mg_of X G aC_LawError, PySem.W.mg_of X G aC_BadText, PySem.W.mg_of X G aC_BadPlain, (exm_cons (PySem.W.mg_of X G aC_BadPlain) (exm_two eS_BadPlain iS_BadPlain tS_BadPlain u_BadPlain_BadPlain) exm_nil), ⟨c_BadPlain, PySem.W.mg_of X G aC_BadPlain, ga_BadPlain, gg_BadPlain, eC_BadPlain, hC_BadPlain, nf_BadPlain_place⟩, (asks_cons IC_BadPlain ⟨c_BadPlain, PySem.W.mg_of X G aC_BadPlain, ki_BadPlain_BadText⟩ asks_nil), (asks_cons IC_BadPlain ⟨c_BadPlain, PySem.W.mg_of X G aC_BadPlain, ki_BadPlain_LawError⟩ asks_nil), (asks_cons IC_BadPlain ⟨c_BadPlain, PySem.W.mg_of X G aC_BadPlain, ki_BadPlain_ValueError⟩ asks_nil)⟩
  have R_is_clean := fun_mk (st := s_is_clean) l_is_clean c_is_clean kp_is_clean
  have H_is_clean : Has K mg "is_clean" s_is_clean ["text"] := ⟨_, _, R_is_clean, PySem.W.mg_of X G a_is_clean, R_is_clean.binds fun _ _ _ _ _ _ us hl => match us, hl with | [_], _ => rfl⟩
  have R_u_members := fun_mk (st := s_u_members) l_u_members c_u_members kp_u_members
  have H_u_members : Has K mg "_members" s_u_members ["text", "at", "deep"] := ⟨_, _, R_u_members, PySem.W.mg_of X G a_u_members, R_u_members.binds fun _ _ _ _ _ _ us hl => match us, hl with | [_, _, _], _ => rfl⟩
  have R_u_quote := fun_mk (st := s_u_quote) l_u_quote c_u_quote kp_u_quote
  have H_u_quote : Has K mg "_quote" s_u_quote ["text", "at"] := ⟨_, _, R_u_quote, PySem.W.mg_of X G a_u_quote, R_u_quote.binds fun _ _ _ _ _ _ us hl => match us, hl with | [_, _], _ => rfl⟩
  have R_u_look := fun_mk (st := s_u_look) l_u_look c_u_look kp_u_look
  have H_u_look : Has K mg "_look" s_u_look ["text", "at", "end"] := ⟨_, _, R_u_look, PySem.W.mg_of X G a_u_look, R_u_look.binds fun _ _ _ _ _ _ us hl => match us, hl with | [_, _, _], _ => rfl⟩
  have R_u_quoted := fun_mk (st := s_u_quoted) l_u_quoted c_u_quoted kp_u_quoted
  have H_u_quoted : Has K mg "_quoted" s_u_quoted ["text", "at"] := ⟨_, _, R_u_quoted, PySem.W.mg_of X G a_u_quoted, R_u_quoted.binds fun _ _ _ _ _ _ us hl => match us, hl with | [_, _], _ => rfl⟩
  have R_u_integer := fun_mk (st := s_u_integer) l_u_integer c_u_integer kp_u_integer
  have H_u_integer : Has K mg "_integer" s_u_integer ["text", "at"] := ⟨_, _, R_u_integer, PySem.W.mg_of X G a_u_integer, R_u_integer.binds fun _ _ _ _ _ _ us hl => match us, hl with | [_, _], _ => rfl⟩
  have R_u_value := fun_mk (st := s_u_value) l_u_value c_u_value kp_u_value
  have H_u_value : Has K mg "_value" s_u_value ["text", "at", "deep"] := ⟨_, _, R_u_value, PySem.W.mg_of X G a_u_value, R_u_value.binds fun _ _ _ _ _ _ us hl => match us, hl with | [_, _, _], _ => rfl⟩
  have R_read_plain := fun_mk (st := s_read_plain) l_read_plain c_read_plain kp_read_plain
  have H_read_plain : Has K mg "read_plain" s_read_plain ["text"] := ⟨_, _, R_read_plain, PySem.W.mg_of X G a_read_plain, R_read_plain.binds fun _ _ _ _ _ _ us hl => match us, hl with | [_], _ => rfl⟩
  have R_u_law_cell := fun_mk (st := s_u_law_cell) l_u_law_cell c_u_law_cell kp_u_law_cell
  have H_u_law_cell : Has K mg "_law_cell" s_u_law_cell ["script", "k"] := ⟨_, _, R_u_law_cell, PySem.W.mg_of X G a_u_law_cell, R_u_law_cell.binds fun _ _ _ _ _ _ us hl => match us, hl with | [_, _], _ => rfl⟩
  have R_u_law_digits := fun_mk (st := s_u_law_digits) l_u_law_digits c_u_law_digits kp_u_law_digits
  have H_u_law_digits : Has K mg "_law_digits" s_u_law_digits ["script", "first", "last"] := ⟨_, _, R_u_law_digits, PySem.W.mg_of X G a_u_law_digits, R_u_law_digits.binds fun _ _ _ _ _ _ us hl => match us, hl with | [_, _, _], _ => rfl⟩
  have R_u_law_draw := fun_mk (st := s_u_law_draw) l_u_law_draw c_u_law_draw kp_u_law_draw
  have H_u_law_draw : Has K mg "_law_draw" s_u_law_draw ["box", "many"] := ⟨_, _, R_u_law_draw, PySem.W.mg_of X G a_u_law_draw, R_u_law_draw.binds fun _ _ _ _ _ _ us hl => match us, hl with | [_, _], _ => rfl⟩
  have R_u_law_same := fun_mk (st := s_u_law_same) l_u_law_same c_u_law_same kp_u_law_same
  have H_u_law_same : Has K mg "_law_same" s_u_law_same ["actual", "due"] := ⟨_, _, R_u_law_same, PySem.W.mg_of X G a_u_law_same, R_u_law_same.binds fun _ _ _ _ _ _ us hl => match us, hl with | [_, _], _ => rfl⟩
  have R_u_law_plain := fun_mk (st := s_u_law_plain) l_u_law_plain c_u_law_plain kp_u_law_plain
  have H_u_law_plain : Has K mg "_law_plain" s_u_law_plain ["value"] := ⟨_, _, R_u_law_plain, PySem.W.mg_of X G a_u_law_plain, R_u_law_plain.binds fun _ _ _ _ _ _ us hl => match us, hl with | [_], _ => rfl⟩
  have R_u_law_text_at := fun_mk (st := s_u_law_text_at) l_u_law_text_at c_u_law_text_at kp_u_law_text_at
  have H_u_law_text_at : Has K mg "_law_text_at" s_u_law_text_at ["text", "at"] := ⟨_, _, R_u_law_text_at, PySem.W.mg_of X G a_u_law_text_at, R_u_law_text_at.binds fun _ _ _ _ _ _ us hl => match us, hl with | [_, _], _ => rfl⟩
  have R_u_law_digits_at := fun_mk (st := s_u_law_digits_at) l_u_law_digits_at c_u_law_digits_at kp_u_law_digits_at
  have H_u_law_digits_at : Has K mg "_law_digits_at" s_u_law_digits_at ["text", "at"] := ⟨_, _, R_u_law_digits_at, PySem.W.mg_of X G a_u_law_digits_at, R_u_law_digits_at.binds fun _ _ _ _ _ _ us hl => match us, hl with | [_, _], _ => rfl⟩
  have R_u_law_value_at := fun_mk (st := s_u_law_value_at) l_u_law_value_at c_u_law_value_at kp_u_law_value_at
  have H_u_law_value_at : Has K mg "_law_value_at" s_u_law_value_at ["text", "at", "deep"] := ⟨_, _, R_u_law_value_at, PySem.W.mg_of X G a_u_law_value_at, R_u_law_value_at.binds fun _ _ _ _ _ _ us hl => match us, hl with | [_, _, _], _ => rfl⟩
  have R_u_law_read := fun_mk (st := s_u_law_read) l_u_law_read c_u_law_read kp_u_law_read
  have H_u_law_read : Has K mg "_law_read" s_u_law_read ["text"] := ⟨_, _, R_u_law_read, PySem.W.mg_of X G a_u_law_read, R_u_law_read.binds fun _ _ _ _ _ _ us hl => match us, hl with | [_], _ => rfl⟩
  have R_u_law_told := fun_mk (st := s_u_law_told) l_u_law_told c_u_law_told kp_u_law_told
  have H_u_law_told : Has K mg "_law_told" s_u_law_told ["text"] := ⟨_, _, R_u_law_told, PySem.W.mg_of X G a_u_law_told, R_u_law_told.binds fun _ _ _ _ _ _ us hl => match us, hl with | [_], _ => rfl⟩
  have R_u_law_value := fun_mk (st := s_u_law_value) l_u_law_value c_u_law_value kp_u_law_value
  have H_u_law_value : Has K mg "_law_value" s_u_law_value ["box", "deep"] := ⟨_, _, R_u_law_value, PySem.W.mg_of X G a_u_law_value, R_u_law_value.binds fun _ _ _ _ _ _ us hl => match us, hl with | [_, _], _ => rfl⟩
  have R_law := fun_mk (st := s_law) l_law c_law kp_law
  have nb : Nb mg := ⟨PySem.W.mg_none_of X G z_ValueError, PySem.W.mg_none_of X G z_bool, PySem.W.mg_none_of X G z_int, PySem.W.mg_none_of X G z_isinstance, PySem.W.mg_none_of X G z_len, PySem.W.mg_none_of X G z_ord, PySem.W.mg_none_of X G z_range, PySem.W.mg_none_of X G z_str, PySem.W.mg_none_of X G z_tuple⟩
  have gl : Gs K mg := ⟨⟨_, PySem.W.mg_of X G e_MOST_DIGITS, _, rfl⟩, ⟨_, PySem.W.mg_of X G e_MOST_DEEP, _, rfl⟩⟩
  have e := hfa.symm.trans (PySem.W.mg_of X G a_law)
  cases e
  refine ⟨PySem.W.fnOf "law" "law" (defArgs s_law) (defBody s_law) (defScope s_law) .none kV_law dc_law pm_law an_law cd_law ct_law, fun s v => .of_eq rfl, fun base _ _ => ?_⟩
  have CE_BadPlain := ce_BadPlain (P := l.prog) (w := w) (base := base) (PySem.W.mg_of X G aC_BadPlain) T_BadPlain nf_BadPlain_place iC_BadPlain tI_BadPlain (PySem.W.mg_of X G aC_LawError) ⟨bg_LawError, bt_LawError, br_LawError, bi_LawError⟩ RI_BadPlain (RI_BadPlain.binds fun _ _ _ _ _ _ us hl => match us, hl with | [_, _], _ => rfl)
  have C_is_clean := k_is_clean (P := l.prog) (w := w) (base := base) nb gl H_is_clean  
  have C_u_quote := k_u_quote (P := l.prog) (w := w) (base := base) nb gl H_u_quote  
  have C_u_look := k_u_look (P := l.prog) (w := w) (base := base) nb gl H_u_look CE_BadPlain C_is_clean
  have C_u_quoted := k_u_quoted (P := l.prog) (w := w) (base := base) nb gl H_u_quoted CE_BadPlain C_u_quote C_u_look
  have C_u_integer := k_u_integer (P := l.prog) (w := w) (base := base) nb gl H_u_integer CE_BadPlain 
  have C_u_value := k_u_value (P := l.prog) (w := w) (base := base) nb gl H_u_value H_u_members CE_BadPlain C_u_quoted C_u_integer
  have C_u_members := k_u_members (P := l.prog) (w := w) (base := base) nb gl H_u_value H_u_members CE_BadPlain C_u_quoted C_u_integer
  have C_read_plain := k_read_plain (P := l.prog) (w := w) (base := base) nb gl H_read_plain CE_BadPlain C_u_value
  have C_u_law_cell := k_u_law_cell (P := l.prog) (w := w) (base := base) nb gl H_u_law_cell  
  have C_u_law_digits := k_u_law_digits (P := l.prog) (w := w) (base := base) nb gl H_u_law_digits  C_u_law_cell
  have C_u_law_draw := k_u_law_draw (P := l.prog) (w := w) (base := base) nb gl H_u_law_draw  
  have C_u_law_same := k_u_law_same (P := l.prog) (w := w) (base := base) nb gl H_u_law_same  
  have C_u_law_plain := k_u_law_plain (P := l.prog) (w := w) (base := base) nb gl H_u_law_plain  
  have C_u_law_text_at := k_u_law_text_at (P := l.prog) (w := w) (base := base) nb gl H_u_law_text_at  
  have C_u_law_digits_at := k_u_law_digits_at (P := l.prog) (w := w) (base := base) nb gl H_u_law_digits_at  
  have C_u_law_value_at := k_u_law_value_at (P := l.prog) (w := w) (base := base) nb gl H_u_law_value_at  C_u_law_text_at C_u_law_digits_at
  have C_u_law_read := k_u_law_read (P := l.prog) (w := w) (base := base) nb gl H_u_law_read  C_u_law_value_at
  have C_u_law_told := k_u_law_told (P := l.prog) (w := w) (base := base) nb gl H_u_law_told XC C_read_plain
  have C_u_law_value := k_u_law_value (P := l.prog) (w := w) (base := base) nb gl H_u_law_value  C_u_law_draw
  exact ok_law nb gl R_law C_u_law_digits C_u_law_plain C_u_law_read C_u_law_value C_u_law_draw C_u_law_same C_u_law_told
end Mi.k18

namespace Mi.P
/-! plain: spans of days -/
def inS (ps : List (Int × Int)) (d : Int) : Bool := ps.any fun p => decide (p.1 ≤ d) && decide (d < p.2)
def cU (ps : List (Int × Int)) (m t : Int) : Int := (ps.map fun p => max 0 (min p.2 t - max p.1 (t - m))).sum
def Nm (ps : List (Int × Int)) : Prop := (∀ p ∈ ps, p.1 < p.2) ∧ ps.Pairwise fun p q => p.2 < q.1
theorem inS_iff {ps : List (Int × Int)} {d : Int} : inS ps d = true ↔ ∃ p ∈ ps, p.1 ≤ d ∧ d < p.2 := by simp [inS]
theorem inS_append (a b : List (Int × Int)) (d : Int) : inS (a ++ b) d = (inS a d || inS b d) := by simp [inS]
theorem inS_one (x : Int × Int) (d : Int) : inS [x] d = (decide (x.1 ≤ d) && decide (d < x.2)) := by simp [inS]
theorem nm_snoc {out : List (Int × Int)} {x : Int × Int} (h : Nm out) (hx : x.1 < x.2) (hl : ∀ l, out.getLast? = some l → l.2 < x.1) : Nm (out ++ [x]) := by
  refine ⟨fun p hp => ?_, ?_⟩
  · rcases List.mem_append.mp hp with z | z
    · exact h.1 p z
    · rw [List.mem_singleton.mp z]; exact hx
  · refine List.pairwise_append.mpr ⟨h.2, List.pairwise_singleton _ _, fun p hp q hq => ?_⟩
    rw [List.mem_singleton.mp hq]
    obtain ⟨init, l, e⟩ : ∃ init l, out = init ++ [l] := ⟨out.dropLast, out.getLast (List.ne_nil_of_mem hp), (List.dropLast_concat_getLast (List.ne_nil_of_mem hp)).symm⟩
    have h1 := hl l (by rw [e]; simp)
    rw [e] at hp h
    rcases List.mem_append.mp hp with z | z
    · have h2 := (List.pairwise_append.mp h.2).2.2 p z l (by simp)
      have h3 := h.1 l (by simp)
      omega
    · rw [List.mem_singleton.mp z]; exact h1
theorem nm_merge {init : List (Int × Int)} {l : Int × Int} {e : Int} (h : Nm (init ++ [l])) (he : l.2 ≤ e) : Nm (init ++ [(l.1, e)]) := by
  have h1 := h.1 l (by simp)
  have h2 := List.pairwise_append.mp h.2
  refine ⟨fun p hp => ?_, List.pairwise_append.mpr ⟨h2.1, List.pairwise_singleton _ _, fun p hp q hq => ?_⟩⟩
  · rcases List.mem_append.mp hp with z | z
    · exact h.1 p (by simp [z])
    · rw [List.mem_singleton.mp z]; show l.1 < e; omega
  · rw [List.mem_singleton.mp hq]
    exact h2.2.2 p hp l (by simp)
theorem in_merge {init : List (Int × Int)} {l x : Int × Int} (h1 : l.1 < l.2) (h2 : x.1 < x.2) (h3 : l.1 ≤ x.1) (h4 : x.1 ≤ l.2) (t : Int) : inS (init ++ [(l.1, max l.2 x.2)]) t = (inS (init ++ [l]) t || inS [x] t) := by
  rw [inS_append, inS_append, inS_one, inS_one, inS_one, Bool.or_assoc]
  congr 1
  rw [Bool.eq_iff_iff]
  simp only [Bool.or_eq_true, Bool.and_eq_true, decide_eq_true_eq]
  omega
def ind (ps : List (Int × Int)) (t : Int) : Int := if inS ps t = true then 1 else 0
theorem nm_tail {p : Int × Int} {ps : List (Int × Int)} (h : Nm (p :: ps)) : Nm ps := ⟨fun q hq => h.1 q (List.mem_cons_of_mem _ hq), (List.pairwise_cons.mp h.2).2⟩
theorem ind_cons {p : Int × Int} {ps : List (Int × Int)} (h : Nm (p :: ps)) (t : Int) : ind (p :: ps) t = (if p.1 ≤ t ∧ t < p.2 then 1 else 0) + ind ps t := by
  unfold ind
  have e : inS (p :: ps) t = (inS [p] t || inS ps t) := inS_append [p] ps t
  rw [e, inS_one]
  by_cases h1 : p.1 ≤ t ∧ t < p.2
  · have h2 : ¬ inS ps t = true := fun z => by
      obtain ⟨q, hq, h3, h4⟩ := inS_iff.mp z
      have h5 := (List.pairwise_cons.mp h.2).1 q hq
      omega
    rw [if_pos h1, if_neg h2]
    simp [h1]
  · rw [if_neg h1]
    have h2 : (decide (p.1 ≤ t) && decide (t < p.2)) = false := by
      rw [Bool.and_eq_false_iff, decide_eq_false_iff_not, decide_eq_false_iff_not]; omega
    rw [h2, Bool.false_or, Int.zero_add]
theorem c_step {ps : List (Int × Int)} {m : Int} (hm : 1 ≤ m) (t : Int) (h : Nm ps) : cU ps m (t + 1) = cU ps m t + ind ps t - ind ps (t - m) := by
  induction ps with
  | nil => simp [cU, ind, inS]
  | cons p ps ih =>
    have ih := ih (nm_tail h)
    have hp := h.1 p (by simp)
    rw [ind_cons h, ind_cons h]
    unfold cU at ih ⊢
    rw [List.map_cons, List.map_cons, List.sum_cons, List.sum_cons, ih]
    have key : max 0 (min p.2 (t + 1) - max p.1 (t + 1 - m)) = max 0 (min p.2 t - max p.1 (t - m)) + (if p.1 ≤ t ∧ t < p.2 then 1 else 0) - (if p.1 ≤ t - m ∧ t - m < p.2 then 1 else 0) := by
      split <;> split <;> omega
    rw [key]
    omega
theorem c_lin {ps : List (Int × Int)} {m a i j : Int} (hm : 1 ≤ m) (h : Nm ps) : ∀ (k : Nat), (∀ u, a ≤ u → u < a + k → ind ps u = i ∧ ind ps (u - m) = j) → cU ps m (a + k) = cU ps m a + (i - j) * k
  | 0, _ => by simp
  | k + 1, hc => by
    have ih := c_lin hm h k fun u h1 h2 => hc u h1 (by omega)
    have h1 := hc (a + k) (by omega) (by omega)
    have e : a + ((k + 1 : Nat) : Int) = (a + k) + 1 := by omega
    rw [e, c_step hm _ h, ih, h1.1, h1.2]
    have : ((k + 1 : Nat) : Int) = (k : Int) + 1 := by omega
    rw [this, Int.mul_add, Int.mul_one]
    omega
theorem ind_const {ps : List (Int × Int)} {a b : Int} (h : ∀ p ∈ ps, (p.1 ≤ a ∨ b ≤ p.1) ∧ (p.2 ≤ a ∨ b ≤ p.2)) (u : Int) (h1 : a ≤ u) (h2 : u < b) : ind ps u = ind ps a := by
  unfold ind
  have : inS ps u = inS ps a := by
    rw [Bool.eq_iff_iff, inS_iff, inS_iff]
    constructor
    · rintro ⟨p, hp, z1, z2⟩
      have := h p hp
      exact ⟨p, hp, by omega, by omega⟩
    · rintro ⟨p, hp, z1, z2⟩
      have := h p hp
      exact ⟨p, hp, by omega, by omega⟩
  rw [this]
theorem c_zero {ps : List (Int × Int)} {m t : Int} (h : ∀ p ∈ ps, t ≤ p.1 ∨ p.2 + m ≤ t) : cU ps m t = 0 := by
  induction ps with
  | nil => rfl
  | cons p ps ih =>
    have h1 := h p (by simp)
    have h2 := ih fun q hq => h q (by simp [hq])
    unfold cU at h2 ⊢
    rw [List.map_cons, List.sum_cons, h2]
    omega
/-- the count between two turns -/
theorem c_turn {ps : List (Int × Int)} {m a b t : Int} (hm : 1 ≤ m) (hn : Nm ps) (h : ∀ p ∈ ps, (p.1 ≤ a ∨ b ≤ p.1) ∧ (p.2 ≤ a ∨ b ≤ p.2) ∧ (p.1 + m ≤ a ∨ b ≤ p.1 + m) ∧ (p.2 + m ≤ a ∨ b ≤ p.2 + m)) (h1 : a ≤ t) (h2 : t ≤ b) :
    cU ps m t = cU ps m a + (ind ps a - ind ps (a - m)) * (t - a) := by
  have e : t = a + ((t - a).toNat : Int) := by omega
  have := c_lin (a := a) (i := ind ps a) (j := ind ps (a - m)) hm hn (t - a).toNat fun u u1 u2 => ⟨ind_const (b := b) (fun p hp => ⟨(h p hp).1, (h p hp).2.1⟩) u u1 (by omega), ind_const (a := a - m) (b := b - m) (fun p hp => by have := (h p hp).2.2; omega) (u - m) (by omega) (by omega)⟩
  rw [← e] at this
  rw [this]
  congr 2
  omega
/-! turns -/
def ins (acc : List Int) (k : Int) : List Int := if k ∈ acc then acc else acc ++ [k]
theorem ins_mem {acc : List Int} {k x : Int} : x ∈ ins acc k ↔ x ∈ acc ∨ x = k := by
  unfold ins
  split
  · rename_i h
    exact ⟨.inl, fun z => z.elim id fun e => e ▸ h⟩
  · simp
theorem ins_len {acc : List Int} {k : Int} : (ins acc k).length ≤ acc.length + 1 := by
  unfold ins
  split
  · omega
  · simp
theorem ins_nodup {acc : List Int} {k : Int} (h : acc.Nodup) : (ins acc k).Nodup := by
  unfold ins
  split
  · exact h
  · rename_i hk
    exact List.nodup_append.mpr ⟨h, by simp, fun a ha b hb e => hk (by rw [← List.mem_singleton.mp hb, ← e]; exact ha)⟩
/-- what one stretch between two turns adds -/
def reach (a b tot rise n : Int) : Int × Int := if 0 < rise then (max a (a + n - tot - 1), min b 20000) else if rise < 0 then (a, min (min b (a + tot - n)) 20000) else (a, min (if tot < n then a else b) 20000)
theorem reach_ok {a b tot rise n c t : Int} (hr : rise = 0 ∨ rise = 1 ∨ rise = -1) (h1 : a ≤ t) (h2 : t < b) (hc : c = tot + rise * (t + 1 - a)) : (decide ((reach a b tot rise n).1 ≤ t) && decide (t < (reach a b tot rise n).2)) = decide (t < 20000 ∧ n ≤ c) := by
  unfold reach
  rw [Bool.eq_iff_iff]
  simp only [Bool.and_eq_true, decide_eq_true_eq]
  rcases hr with rfl | rfl | rfl
  · simp; split <;> omega
  · simp; omega
  · simp; omega
theorem reach_in {a b tot rise n : Int} (h : (reach a b tot rise n).1 < (reach a b tot rise n).2) : a ≤ (reach a b tot rise n).1 ∧ ((reach a b tot rise n).2 ≤ b ∨ (reach a b tot rise n).2 ≤ a) ∧ (reach a b tot rise n).2 ≤ 20000 := by
  unfold reach at h ⊢
  split
  · simp_all; omega
  · split
    · simp_all; omega
    · simp_all; split <;> omega
end Mi.P

namespace Mi.P
open PySem PySem.Spec PyProof.Rows L2 TL
open Classical
/-! plain: texts of spans -/
abbrev NT (i : Int) : Str := (toString i : String)
theorem tl_NT {i : Int} (h : 0 ≤ i) : tl (NT i) = numL i.toNat := by
  obtain ⟨n, rfl⟩ := Int.eq_ofNat_of_zero_le h
  exact tl_num n
theorem NT_len {i : Int} (h : 0 ≤ i) (h1 : i ≤ 99999) : (NT i).length ≤ 5 := by
  rw [len_tl, tl_NT h]
  exact numL_len (by decide) (by omega)
theorem NT_fit {i : Int} (h : 0 ≤ i) (h1 : i ≤ 99999) : i.natAbs.log2 < 1920 ∧ (NT i).length ≤ sizeLine := by
  refine ⟨?_, Nat.le_trans (NT_len h h1) (by rw [sizeLine_eq]; decide)⟩
  by_cases e : i.natAbs = 0
  · rw [e]; decide
  · have := (Nat.log2_lt e).mpr (show i.natAbs < 2 ^ 17 by omega)
    omega
theorem tl_dash : tl ("-" : Str) = [45] := by decide +kernel
theorem tl_comma : tl ("," : Str) = [44] := by decide +kernel
theorem tl_none : tl ("none" : Str) = [110, 111, 110, 101] := by decide +kernel
theorem tl_zero : tl ("0" : Str) = [48] := by decide +kernel
def showSp (p : Int × Int) : Str := if p.2 = 20000 then NT p.1 ++ ("-" : Str) else if p.2 = p.1 + 1 then NT p.1 else NT p.1 ++ ("-" : Str) ++ NT (p.2 - 1)
def showL (f : List (Int × Int)) : Str := if f = [] then "none" else Txt.join "," (f.map showSp)
def adB (x : Str) : Bool := !(tl x).isEmpty && (tl x).all fun c => decide (48 ≤ c) && decide (c ≤ 57)
def valS (x : Str) : Int := ((NumText.digitsVal (tl x) : Nat) : Int)
def rd (x : Str) : Option Int := if adB x = true ∧ x.length ≤ 5 ∧ valS x < 20000 then some (valS x) else none
def rsp (x : Str) : Option (Int × Int) := (rd (Txt.partition x "-").1).bind fun s => if (Txt.partition x "-").2.1.length = 0 then some (s, s + 1) else if (Txt.partition x "-").2.2.length = 0 then some (s, 20000) else
  (rd (Txt.partition x "-").2.2).bind fun e => if e + 1 ≤ s then none else some (s, e + 1)
def Vd (p : Int × Int) : Prop := 0 ≤ p.1 ∧ p.1 < p.2 ∧ p.2 ≤ 20000
def mapO {α β : Type} (g : α → Option β) : List α → Option (List β)
  | [] => some []
  | a :: r => (g a).bind fun b => (mapO g r).map (b :: ·)
noncomputable def sel {α : Type} (o : Option α) (P : α → Prop) : Option α := o.bind fun f => if P f then some f else none
theorem sel_iff {α : Type} {o : Option α} {P : α → Prop} {f : α} : sel o P = some f ↔ o = some f ∧ P f := by
  unfold sel
  cases o with
  | none => simp
  | some a =>
    simp only [Option.bind_some, Option.some.injEq]
    by_cases h : P a
    · rw [if_pos h]
      constructor
      · intro e; cases e; exact ⟨rfl, h⟩
      · rintro ⟨e, _⟩; rw [e]
    · rw [if_neg h]
      constructor
      · intro e; cases e
      · rintro ⟨e, q⟩; subst e; exact absurd q h
noncomputable def readL (x : Str) : Option (List (Int × Int)) := if x = ("none" : Str) then some [] else sel (mapO rsp (Txt.split x ",")) fun f => Nm f ∧ showL f = x
def fig (x : Str) : Bool := adB x && decide (x.length ≤ 5) && (decide (x = ("0" : Str)) || !decide ((tl x).head? = some 48))
def msp (x : Str) : Option (Int × Int) := if fig (Txt.partition x "-").1 = false ∨ ((Txt.partition x "-").2.1 ≠ ("" : Str) ∧ (Txt.partition x "-").2.2 ≠ ("" : Str) ∧ fig (Txt.partition x "-").2.2 = false) then none
  else some (valS (Txt.partition x "-").1, if (Txt.partition x "-").2.1 = ("" : Str) then valS (Txt.partition x "-").1 + 1 else if (Txt.partition x "-").2.2 = ("" : Str) then 20000 else valS (Txt.partition x "-").2.2 + 1)
noncomputable def meantL (x : Str) : Option (List (Int × Int)) := if x = ("none" : Str) then some [] else sel (mapO msp (Txt.split x ",")) fun f => showL f = x ∧ (∀ p ∈ f, Vd p) ∧ Nm f
theorem mapO_map {α β : Type} {g : β → Option α} {h : α → β} : ∀ {f : List α}, (∀ p ∈ f, g (h p) = some p) → mapO g (f.map h) = some f
  | [], _ => rfl
  | p :: r, hp => by
    rw [List.map_cons]
    unfold mapO
    rw [hp p (by simp), mapO_map fun q hq => hp q (by simp [hq])]
    rfl
theorem mapO_mem {α β : Type} {g : α → Option β} : ∀ {xs : List α} {f : List β}, mapO g xs = some f → ∀ p ∈ f, ∃ x ∈ xs, g x = some p
  | [], f, h, p, hp => by cases h; cases hp
  | x :: r, f, h, p, hp => by
    unfold mapO at h
    cases e : g x with
    | none => rw [e] at h; cases h
    | some b =>
      cases e2 : mapO g r with
      | none => rw [e, e2] at h; cases h
      | some q =>
        rw [e, e2] at h
        cases h
        rcases List.mem_cons.mp hp with z | z
        · exact ⟨x, by simp, by rw [z]; exact e⟩
        · obtain ⟨y, hy, q⟩ := mapO_mem e2 p z
          exact ⟨y, by simp [hy], q⟩
theorem mapO_len {α β : Type} {g : α → Option β} : ∀ {xs : List α} {f : List β}, mapO g xs = some f → f.length = xs.length
  | [], f, h => by cases h; rfl
  | x :: r, f, h => by
    unfold mapO at h
    cases e : g x with
    | none => rw [e] at h; cases h
    | some b =>
      cases e2 : mapO g r with
      | none => rw [e, e2] at h; cases h
      | some q =>
        rw [e, e2] at h
        cases h
        simp [mapO_len e2]
theorem adB_NT {i : Int} (h : 0 ≤ i) : adB (NT i) = true := by
  unfold adB
  rw [tl_NT h, Bool.and_eq_true]
  refine ⟨?_, List.all_eq_true.mpr fun c hc => ?_⟩
  · cases e : numL i.toNat with
    | nil => exact absurd e (numL_ne _)
    | cons _ _ => rfl
  · have := numL_digits _ c hc
    simp only [Bool.and_eq_true, decide_eq_true_eq]
    exact this
theorem valS_NT {i : Int} (h : 0 ≤ i) : valS (NT i) = i := by
  unfold valS
  rw [tl_NT h, numL_val]
  omega
theorem numL_head {n : Nat} (h : n ≠ 0) : (numL n).head? ≠ some 48 := by
  induction n using Nat.strongRecOn with
  | _ n ih =>
    by_cases c : n < 10
    · rw [numL_lt c]
      simp
      exact h
    · have e : (numL n).head? = (numL (n / 10)).head? := by
        rw [numL_step (by omega)]
        cases q : numL (n / 10) with
        | nil => exact absurd q (numL_ne _)
        | cons _ _ => rfl
      rw [e]
      exact ih (n / 10) (by omega) (by omega)
theorem fig_NT {i : Int} (h : 0 ≤ i) (h1 : i ≤ 99999) : fig (NT i) = true := by
  unfold fig
  rw [adB_NT h, decide_eq_true (NT_len h h1), Bool.true_and, Bool.true_and, Bool.or_eq_true, decide_eq_true_eq, Bool.not_eq_true', decide_eq_false_iff_not]
  by_cases e : i = 0
  · subst e
    refine .inl (ext_tl ?_)
    rw [tl_NT (by omega), tl_zero]
    exact numL_lt (by decide)
  · exact .inr (by rw [tl_NT h]; exact numL_head (by omega))
theorem rd_NT {i : Int} (h : 0 ≤ i) (h1 : i < 20000) : rd (NT i) = some i := by
  unfold rd
  rw [valS_NT h, if_pos ⟨adB_NT h, NT_len h (by omega), h1⟩]
theorem free_NT {i : Int} (h : 0 ≤ i) {c : Nat} (hc : c < 48 ∨ 57 < c) : c ∉ tl (NT i) := by
  rw [tl_NT h]; exact numL_free hc
theorem app_empty (x : Str) : x ++ Str.empty = x := ext_tl (by rw [tl_append]; exact List.append_nil _)
theorem empty_app (x : Str) : Str.empty ++ x = x := ext_tl (by rw [tl_append]; rfl)
theorem empty_lit : ("" : Str) = Str.empty := ext_tl (by decide +kernel)
theorem dash_len : ("-" : Str).length = 1 := by rw [len_tl, tl_dash]; rfl
theorem NT_ne {i : Int} (h : 0 ≤ i) : (NT i).length ≠ 0 := by
  rw [len_tl, tl_NT h]
  intro z
  exact numL_ne _ (List.length_eq_zero_iff.mp z)
/-- the parts of a span's text -/
theorem part_show {p : Int × Int} (h : Vd p) : Txt.partition (showSp p) "-" = if p.2 = 20000 then (NT p.1, ("-" : Str), Str.empty) else if p.2 = p.1 + 1 then (NT p.1, Str.empty, Str.empty) else (NT p.1, ("-" : Str), NT (p.2 - 1)) := by
  have f1 : 45 ∉ tl (NT p.1) := free_NT h.1 (by decide)
  unfold showSp
  split
  · rw [← app_empty (NT p.1 ++ ("-" : Str))]
    exact partition_app tl_dash f1
  · split
    · exact partition_none tl_dash f1
    · exact partition_app tl_dash f1
theorem rsp_show {p : Int × Int} (h : Vd p) : rsp (showSp p) = some p := by
  unfold rsp
  rw [part_show h]
  obtain ⟨h1, h2, h3⟩ := h
  by_cases c : p.2 = 20000
  · rw [if_pos c]
    simp only [rd_NT h1 (by omega), Option.bind_some]
    rw [if_neg (by rw [dash_len]; decide), if_pos (show Str.empty.length = 0 from rfl), ← c]
  · rw [if_neg c]
    by_cases c2 : p.2 = p.1 + 1
    · rw [if_pos c2]
      simp only [rd_NT h1 (by omega), Option.bind_some]
      rw [if_pos (show Str.empty.length = 0 from rfl), ← c2]
    · rw [if_neg c2]
      simp only [rd_NT h1 (by omega), Option.bind_some]
      rw [if_neg (by rw [dash_len]; decide), if_neg (NT_ne (by omega)), rd_NT (by omega) (by omega)]
      simp only [Option.bind_some]
      rw [if_neg (by omega)]
      congr
      omega
theorem NT_ne' {i : Int} (h : 0 ≤ i) : NT i ≠ ("" : Str) := fun z => NT_ne h (by rw [z, empty_lit]; rfl)
theorem dash_ne : ("-" : Str) ≠ ("" : Str) := fun z => by
  have := dash_len
  rw [z, empty_lit] at this
  cases this
theorem msp_show {p : Int × Int} (h : Vd p) : msp (showSp p) = some p := by
  unfold msp
  rw [part_show h]
  obtain ⟨h1, h2, h3⟩ := h
  have f1 := fig_NT h1 (by omega)
  by_cases c : p.2 = 20000
  · rw [if_pos c]
    simp only
    rw [if_neg (by rintro (z | ⟨_, z, _⟩); rw [f1] at z; cases z; exact z empty_lit.symm), if_neg dash_ne, if_pos empty_lit.symm, valS_NT h1, ← c]
  · rw [if_neg c]
    by_cases c2 : p.2 = p.1 + 1
    · rw [if_pos c2]
      simp only
      rw [if_neg (by rintro (z | ⟨z, _, _⟩); rw [f1] at z; cases z; exact z empty_lit.symm), if_pos empty_lit.symm, valS_NT h1, ← c2]
    · rw [if_neg c2]
      have f2 := fig_NT (i := p.2 - 1) (by omega) (by omega)
      simp only
      rw [if_neg (by rintro (z | ⟨_, _, z⟩); rw [f1] at z; cases z; rw [f2] at z; cases z), if_neg dash_ne, if_neg (NT_ne' (by omega)), valS_NT h1, valS_NT (by omega)]
      congr
      omega
theorem free_show {p : Int × Int} (h : Vd p) : 44 ∉ tl (showSp p) := by
  have f1 : 44 ∉ tl (NT p.1) := free_NT h.1 (by decide)
  have f2 : 44 ∉ tl (NT (p.2 - 1)) := free_NT (by have := h.1; have := h.2.1; omega) (by decide)
  have f3 : 44 ∉ tl ("-" : Str) := by rw [tl_dash]; decide
  unfold showSp
  split
  · rw [tl_append, List.mem_append]; exact fun z => z.elim f1 f3
  · split
    · exact f1
    · rw [tl_append, tl_append, List.mem_append, List.mem_append]; exact fun z => z.elim (fun z => z.elim f1 f3) f2
theorem comma_all : (("," : Str)).cps.all (· < 256) = true := by decide +kernel
theorem split_show {f : List (Int × Int)} (hne : f ≠ []) (h : ∀ p ∈ f, Vd p) : Txt.split (showL f) "," = f.map showSp := by
  unfold showL
  rw [if_neg hne]
  refine split_join tl_comma comma_all (by simpa using hne) fun x hx => ?_
  obtain ⟨p, hp, rfl⟩ := List.mem_map.mp hx
  exact free_show (h p hp)
theorem spl_ne (S : List Nat) : ∀ (l : List Nat) (k : Nat) (acc : List Nat), spl S k acc l ≠ []
  | [], k, acc => by rw [spl_nil]; simp
  | c :: r, 0, acc => by
    cases h : pre S (c :: r) with
    | true => rw [spl_hit h]; simp
    | false => rw [spl_miss h]; exact spl_ne S r 0 _
  | c :: r, k + 1, acc => spl_ne S r k acc
theorem split_ne (x : Str) : Txt.split x "," ≠ [] := fun z => by
  have e := split_spl x "," (by rw [tl_comma]; simp) (kind_ok comma_all)
  rw [z] at e
  exact spl_ne _ _ _ _ e.symm
theorem rd_lo {x : Str} {i : Int} (h : rd x = some i) : 0 ≤ i ∧ i < 20000 := by
  unfold rd at h
  split at h
  · rename_i c
    cases h
    exact ⟨by unfold valS; omega, c.2.2⟩
  · cases h
theorem rsp_vd {x : Str} {p : Int × Int} (h : rsp x = some p) : Vd p := by
  unfold rsp at h
  cases e : rd (Txt.partition x "-").1 with
  | none => rw [e] at h; cases h
  | some s =>
    rw [e] at h
    have hs := rd_lo e
    simp only [Option.bind_some] at h
    split at h
    · cases h; exact ⟨hs.1, by show s < s + 1; omega, by show s + 1 ≤ 20000; omega⟩
    · split at h
      · cases h; exact ⟨hs.1, hs.2, Int.le_refl _⟩
      · cases e2 : rd (Txt.partition x "-").2.2 with
        | none => rw [e2] at h; cases h
        | some t =>
          rw [e2] at h
          have ht := rd_lo e2
          simp only [Option.bind_some] at h
          split at h
          · cases h
          · cases h; exact ⟨hs.1, by show s < t + 1; omega, by show t + 1 ≤ 20000; omega⟩
theorem read_eq (x : Str) : readL x = meantL x := by
  unfold readL meantL
  split
  · rfl
  · refine Option.ext fun f => ?_
    rw [sel_iff, sel_iff]
    have ne : ∀ {g : Str → Option (Int × Int)}, mapO g (Txt.split x ",") = some f → f ≠ [] := fun {g} h z => split_ne x (by
      have := mapO_len h
      rw [z] at this
      exact List.length_eq_zero_iff.mp this.symm)
    constructor
    · rintro ⟨h1, h2, h3⟩
      have hv : ∀ p ∈ f, Vd p := fun p hp => let ⟨_, _, q⟩ := mapO_mem h1 p hp; rsp_vd q
      refine ⟨?_, h3, hv, h2⟩
      have e := split_show (ne h1) hv
      rw [h3] at e
      rw [e]
      exact mapO_map fun p hp => msp_show (hv p hp)
    · rintro ⟨h1, h2, h3, h4⟩
      refine ⟨?_, h4, h2⟩
      have e := split_show (ne h1) h3
      rw [h2] at e
      rw [e]
      exact mapO_map fun p hp => rsp_show (h3 p hp)
theorem show_ne_none {f : List (Int × Int)} (hne : f ≠ []) (h : ∀ p ∈ f, Vd p) : showL f ≠ ("none" : Str) := fun z => by
  have e := split_show hne h
  rw [z] at e
  have e2 : Txt.split ("none" : Str) "," = [("none" : Str)] := by
    have := split_join (y := ",") tl_comma comma_all (parts := [("none" : Str)]) (by simp) (fun p hp => by rw [List.mem_singleton.mp hp, tl_none]; decide)
    rw [join_eq] at this
    exact this
  rw [e2] at e
  cases f with
  | nil => exact hne rfl
  | cons p r =>
    rw [List.map_cons] at e
    have e3 := (List.cons.inj e).1
    have := rsp_show (h p (by simp))
    rw [← e3] at this
    have bad : rsp ("none" : Str) = none := by
      unfold rsp
      rw [partition_none tl_dash (a := ("none" : Str)) (by rw [tl_none]; decide)]
      have : rd ("none" : Str) = none := by
        unfold rd adB
        rw [tl_none]
        rfl
      simp only [this]
      rfl
    rw [bad] at this
    cases this
theorem read_show {f : List (Int × Int)} (hn : Nm f) (h : ∀ p ∈ f, Vd p) : readL (showL f) = some f := by
  unfold readL
  by_cases hne : f = []
  · subst hne
    rw [if_pos (by unfold showL; rw [if_pos rfl])]
  · rw [if_neg (show_ne_none hne h), sel_iff]
    refine ⟨?_, hn, rfl⟩
    rw [split_show hne h]
    exact mapO_map fun p hp => rsp_show (h p hp)
/-! canonical sets are one -/
theorem in_head {p : Int × Int} {ps : List (Int × Int)} {t : Int} : inS (p :: ps) t = ((decide (p.1 ≤ t) && decide (t < p.2)) || inS ps t) := by
  rw [show p :: ps = [p] ++ ps from rfl, inS_append, inS_one]
theorem nm_lo {p : Int × Int} {ps : List (Int × Int)} (h : Nm (p :: ps)) {t : Int} (hi : inS (p :: ps) t = true) : p.1 ≤ t := by
  obtain ⟨q, hq, h1, h2⟩ := inS_iff.mp hi
  rcases List.mem_cons.mp hq with z | z
  · rw [← z]; exact h1
  · have := (List.pairwise_cons.mp h.2).1 q z
    have := h.1 p (by simp)
    omega
theorem nm_gap {p : Int × Int} {ps : List (Int × Int)} (h : Nm (p :: ps)) {t : Int} (ht : t ≤ p.2) : inS ps t = false := by
  rw [Bool.eq_false_iff]
  intro z
  obtain ⟨q, hq, h1, h2⟩ := inS_iff.mp z
  have := (List.pairwise_cons.mp h.2).1 q hq
  omega
theorem nm_uniq : ∀ {a b : List (Int × Int)}, Nm a → Nm b → (∀ t, inS a t = inS b t) → a = b
  | [], [], _, _, _ => rfl
  | [], q :: b, _, hb, h => by
    have := h q.1
    have hq := hb.1 q (by simp)
    rw [in_head, show inS [] q.1 = false from rfl, decide_eq_true (Int.le_refl q.1), decide_eq_true hq] at this
    cases this
  | p :: a, [], ha, _, h => by
    have := h p.1
    have hq := ha.1 p (by simp)
    rw [in_head, show inS [] p.1 = false from rfl, decide_eq_true (Int.le_refl p.1), decide_eq_true hq] at this
    cases this
  | p :: a, q :: b, ha, hb, h => by
    have hp := ha.1 p (by simp)
    have hq := hb.1 q (by simp)
    have ia : inS (p :: a) p.1 = true := by rw [in_head, decide_eq_true (Int.le_refl p.1), decide_eq_true hp]; rfl
    have ib : inS (q :: b) q.1 = true := by rw [in_head, decide_eq_true (Int.le_refl q.1), decide_eq_true hq]; rfl
    have e1 : p.1 = q.1 := by
      have h1 := nm_lo hb (by rw [← h]; exact ia)
      have h2 := nm_lo ha (by rw [h]; exact ib)
      omega
    have out : ∀ {p : Int × Int} {a : List (Int × Int)}, Nm (p :: a) → inS (p :: a) p.2 = false := fun {p a} h => by
      rw [in_head, nm_gap h (Int.le_refl _), decide_eq_false (show ¬ p.2 < p.2 by omega), Bool.and_false]; rfl
    have e2 : p.2 = q.2 := by
      rcases Int.lt_trichotomy p.2 q.2 with z | z | z
      · have h1 := out ha
        rw [h, in_head, decide_eq_true (show q.1 ≤ p.2 by omega), decide_eq_true z] at h1
        cases h1
      · exact z
      · have h1 := out hb
        rw [← h, in_head, decide_eq_true (show p.1 ≤ q.2 by omega), decide_eq_true z] at h1
        cases h1
    have e : p = q := Prod.ext e1 e2
    subst e
    rw [nm_uniq (nm_tail ha) (nm_tail hb) fun t => ?_]
    by_cases ht : t ≤ p.2
    · rw [nm_gap ha ht, nm_gap hb ht]
    · have := h t
      rw [in_head, in_head, decide_eq_false (show ¬ t < p.2 by omega), Bool.and_false, Bool.false_or, Bool.false_or] at this
      exact this
end Mi.P

namespace Mi.P
open PySem
/-! plain: what is in both, what is free, what is moved, what is counted -/
theorem nm_app {out : List (Int × Int)} {s e : Int} (h : Nm out) (hs : s < e) (hl : ∀ p ∈ out, p.2 < s) : Nm (out ++ [(s, e)]) :=
  nm_snoc h hs fun l hl' => hl l (List.mem_of_getLast? hl')
theorem take_one {α : Type} {L : List α} {i : Nat} (h : i < L.length) : L.take (i + 1) = L.take i ++ [L[i]] := by
  rw [List.take_add_one, List.getElem?_eq_getElem h]; rfl
theorem nm_idx {ps : List (Int × Int)} (h : Nm ps) {i j : Nat} (hi : i < ps.length) (hj : j < ps.length) (hij : i < j) : ps[i].2 < ps[j].1 := List.pairwise_iff_getElem.mp h.2 i j hi hj hij
theorem nm_at {ps : List (Int × Int)} (h : Nm ps) {i : Nat} (hi : i < ps.length) : ps[i].1 < ps[i].2 := h.1 _ (List.getElem_mem _)
theorem in_idx {ps : List (Int × Int)} {t : Int} : inS ps t = true ↔ ∃ (i : Nat) (h : i < ps.length), ps[i].1 ≤ t ∧ t < ps[i].2 := by
  rw [inS_iff]
  constructor
  · rintro ⟨p, hp, z⟩
    obtain ⟨i, hi, rfl⟩ := List.getElem_of_mem hp
    exact ⟨i, hi, z⟩
  · rintro ⟨i, hi, z⟩
    exact ⟨_, List.getElem_mem hi, z⟩
theorem in_take {ps : List (Int × Int)} {n : Nat} {t : Int} : inS (ps.take n) t = true ↔ ∃ (i : Nat) (h : i < ps.length), i < n ∧ ps[i].1 ≤ t ∧ t < ps[i].2 := by
  rw [in_idx]
  constructor
  · rintro ⟨i, hi, z⟩
    rw [List.length_take] at hi
    rw [List.getElem_take] at z
    exact ⟨i, by omega, by omega, z⟩
  · rintro ⟨i, hi, hn, z⟩
    exact ⟨i, by rw [List.length_take]; omega, by rw [List.getElem_take]; exact z⟩
/-- both: i spans of A, j of B are done -/
structure Bo (A B : List (Int × Int)) (i j : Nat) (out : List (Int × Int)) : Prop where
  nm : Nm out
  ins : ∀ t, inS out t = true ↔ inS A t = true ∧ inS B t = true ∧ (inS (A.take i) t = true ∨ inS (B.take j) t = true)
  en : ∀ p ∈ out, (∃ (a : Nat) (h : a < A.length), a < i ∧ p.2 ≤ A[a].2) ∨ ∃ (b : Nat) (h : b < B.length), b < j ∧ p.2 ≤ B[b].2
  lo : ∀ p ∈ out, 0 ≤ p.1
  hi : ∀ p ∈ out, p.2 ≤ 20000
  len : out.length ≤ i + j
theorem bo_0 (A B : List (Int × Int)) : Bo A B 0 0 [] := ⟨⟨by simp, List.Pairwise.nil⟩, fun t => by simp [inS], by simp, by simp, by simp, Nat.le_refl _⟩
theorem bo_step {A B out : List (Int × Int)} {i j : Nat} (hA : Nm A) (hB : Nm B) (a0 : ∀ p ∈ A, 0 ≤ p.1) (a1 : ∀ p ∈ A, p.2 ≤ 20000) (h : Bo A B i j out) (hi : i < A.length) (hj : j < B.length) {i' j' : Nat}
    (hs : (A[i].2 ≤ B[j].2 ∧ i' = i + 1 ∧ j' = j) ∨ (B[j].2 ≤ A[i].2 ∧ i' = i ∧ j' = j + 1)) :
    Bo A B i' j' (if max A[i].1 B[j].1 < min A[i].2 B[j].2 then out ++ [(max A[i].1 B[j].1, min A[i].2 B[j].2)] else out) := by
  have hAi := nm_at hA hi
  have hBj := nm_at hB hj
  have lst : ∀ p ∈ out, p.2 < max A[i].1 B[j].1 := fun p hp => by
    rcases h.en p hp with ⟨a, ha, h1, h2⟩ | ⟨b, hb, h1, h2⟩
    · have := nm_idx hA ha hi h1; omega
    · have := nm_idx hB hb hj h1; omega
  have inA : ∀ t, A[i].1 ≤ t → t < A[i].2 → inS A t = true := fun t h1 h2 => in_idx.mpr ⟨i, hi, h1, h2⟩
  have inB : ∀ t, B[j].1 ≤ t → t < B[j].2 → inS B t = true := fun t h1 h2 => in_idx.mpr ⟨j, hj, h1, h2⟩
  have more : ∀ {t}, (inS (A.take i) t = true ∨ inS (B.take j) t = true) → (inS (A.take i') t = true ∨ inS (B.take j') t = true) := fun {t} z => by
    rcases z with z | z
    · obtain ⟨k, hk, k1, k2⟩ := in_take.mp z
      exact .inl (in_take.mpr ⟨k, hk, by omega, k2⟩)
    · obtain ⟨k, hk, k1, k2⟩ := in_take.mp z
      exact .inr (in_take.mpr ⟨k, hk, by omega, k2⟩)
  -- what is newly done
  have new : ∀ t, inS A t = true → inS B t = true → (inS (A.take i') t = true ∨ inS (B.take j') t = true) → (inS (A.take i) t = true ∨ inS (B.take j) t = true) ∨ (max A[i].1 B[j].1 ≤ t ∧ t < min A[i].2 B[j].2) := fun t tA tB z => by
    rcases hs with ⟨hc, rfl, rfl⟩ | ⟨hc, rfl, rfl⟩
    · rcases z with z | z
      · obtain ⟨k, hk, k1, k2, k3⟩ := in_take.mp z
        by_cases e : k = i
        · subst e
          obtain ⟨b, hb, b1, b2⟩ := in_idx.mp tB
          by_cases c : b < j'
          · exact .inl (.inr (in_take.mpr ⟨b, hb, c, b1, b2⟩))
          · by_cases c2 : b = j'
            · subst c2; exact .inr ⟨by omega, by omega⟩
            · have := nm_idx hB hj hb (by omega); omega
        · exact .inl (.inl (in_take.mpr ⟨k, hk, by omega, k2, k3⟩))
      · exact .inl (.inr z)
    · rcases z with z | z
      · exact .inl (.inl z)
      · obtain ⟨k, hk, k1, k2, k3⟩ := in_take.mp z
        by_cases e : k = j
        · subst e
          obtain ⟨b, hb, b1, b2⟩ := in_idx.mp tA
          by_cases c : b < i'
          · exact .inl (.inl (in_take.mpr ⟨b, hb, c, b1, b2⟩))
          · by_cases c2 : b = i'
            · subst c2; exact .inr ⟨by omega, by omega⟩
            · have := nm_idx hA hi hb (by omega); omega
        · exact .inl (.inr (in_take.mpr ⟨k, hk, by omega, k2, k3⟩))
  have enw : ∀ p ∈ out, (∃ (a : Nat) (h : a < A.length), a < i' ∧ p.2 ≤ A[a].2) ∨ ∃ (b : Nat) (h : b < B.length), b < j' ∧ p.2 ≤ B[b].2 := fun p hp => by
    rcases h.en p hp with ⟨a, ha, h1, h2⟩ | ⟨b, hb, h1, h2⟩
    · exact .inl ⟨a, ha, by omega, h2⟩
    · exact .inr ⟨b, hb, by omega, h2⟩
  have nn : ∀ t, (max A[i].1 B[j].1 ≤ t ∧ t < min A[i].2 B[j].2) → (inS (A.take i') t = true ∨ inS (B.take j') t = true) := fun t z => by
    rcases hs with ⟨hc, rfl, rfl⟩ | ⟨hc, rfl, rfl⟩
    · exact .inl (in_take.mpr ⟨i, hi, by omega, by omega, by omega⟩)
    · exact .inr (in_take.mpr ⟨j, hj, by omega, by omega, by omega⟩)
  split
  · rename_i c
    refine ⟨nm_app h.nm c lst, fun t => ?_, fun p hp => ?_, fun p hp => ?_, fun p hp => ?_, by rw [List.length_append]; have := h.len; simp; omega⟩
    · rw [inS_append, Bool.or_eq_true, h.ins, inS_one, Bool.and_eq_true, decide_eq_true_eq, decide_eq_true_eq]
      constructor
      · rintro (⟨z1, z2, z3⟩ | z)
        · exact ⟨z1, z2, more z3⟩
        · exact ⟨inA t (by omega) (by omega), inB t (by omega) (by omega), nn t z⟩
      · rintro ⟨z1, z2, z3⟩
        rcases new t z1 z2 z3 with z | z
        · exact .inl ⟨z1, z2, z⟩
        · exact .inr z
    · rcases List.mem_append.mp hp with z | z
      · exact enw p z
      · rw [List.mem_singleton.mp z]
        rcases hs with ⟨hc, rfl, rfl⟩ | ⟨hc, rfl, rfl⟩
        · exact .inl ⟨i, hi, by omega, by show min _ _ ≤ _; omega⟩
        · exact .inr ⟨j, hj, by omega, by show min _ _ ≤ _; omega⟩
    · rcases List.mem_append.mp hp with z | z
      · exact h.lo p z
      · rw [List.mem_singleton.mp z]
        have := a0 A[i] (List.getElem_mem _)
        show 0 ≤ max _ _
        omega
    · rcases List.mem_append.mp hp with z | z
      · exact h.hi p z
      · rw [List.mem_singleton.mp z]
        have := a1 A[i] (List.getElem_mem _)
        show min _ _ ≤ 20000
        omega
  · rename_i c
    refine ⟨h.nm, fun t => ?_, enw, h.lo, h.hi, by have := h.len; omega⟩
    rw [h.ins]
    constructor
    · rintro ⟨z1, z2, z3⟩
      exact ⟨z1, z2, more z3⟩
    · rintro ⟨z1, z2, z3⟩
      rcases new t z1 z2 z3 with z | z
      · exact ⟨z1, z2, z⟩
      · omega
theorem bo_end {A B out : List (Int × Int)} {i j : Nat} (h : Bo A B i j out) (he : A.length ≤ i ∨ B.length ≤ j) (t : Int) : inS out t = (inS A t && inS B t) := by
  rw [Bool.eq_iff_iff, h.ins, Bool.and_eq_true]
  constructor
  · rintro ⟨z1, z2, _⟩; exact ⟨z1, z2⟩
  · rintro ⟨z1, z2⟩
    refine ⟨z1, z2, ?_⟩
    rcases he with e | e
    · exact .inl (by rw [List.take_of_length_le e]; exact z1)
    · exact .inr (by rw [List.take_of_length_le e]; exact z2)
/-- rest: i spans of A are done, free from f -/
structure Re (A : List (Int × Int)) (i : Nat) (f : Int) (out : List (Int × Int)) : Prop where
  nm : Nm out
  ins : ∀ t, inS out t = true ↔ 0 ≤ t ∧ t < f ∧ inS A t = false
  en : ∀ p ∈ out, p.2 < f
  lo : ∀ p ∈ out, 0 ≤ p.1
  fr : (i = 0 ∧ f = 0) ∨ ∃ (a : Nat) (h : a < A.length), a + 1 = i ∧ f = A[a].2
  len : out.length ≤ i
theorem re_0 (A : List (Int × Int)) : Re A 0 0 [] := ⟨⟨by simp, List.Pairwise.nil⟩, fun t => by simp [inS]; omega, by simp, by simp, .inl ⟨rfl, rfl⟩, Nat.le_refl _⟩
theorem re_gap {A out : List (Int × Int)} {i : Nat} {f : Int} (hA : Nm A) (a0 : ∀ p ∈ A, 0 ≤ p.1) (h : Re A i f out) : 0 ≤ f ∧ ∀ t, f ≤ t → (∀ (hi : i < A.length), t < A[i].1) → inS A t = false := by
  refine ⟨?_, fun t h1 h2 => ?_⟩
  · rcases h.fr with ⟨_, e⟩ | ⟨a, hh, h1, h2⟩
    · omega
    · have := a0 A[a] (List.getElem_mem _)
      have := nm_at hA hh
      omega
  · rw [Bool.eq_false_iff]
    intro z
    obtain ⟨k, hk, k1, k2⟩ := in_idx.mp z
    by_cases c : k < i
    · rcases h.fr with ⟨e, _⟩ | ⟨a, hh, q1, q2⟩
      · omega
      · by_cases e : k = a
        · subst e; omega
        · have := nm_idx hA hk hh (by omega)
          have := nm_at hA hh
          omega
    · by_cases e : k = i
      · subst e
        have := h2 hk
        omega
      · have := nm_idx hA (i := i) (by omega) hk (by omega)
        have := h2 (by omega)
        have := nm_at hA (i := i) (by omega)
        omega
theorem re_step {A out : List (Int × Int)} {i : Nat} {f : Int} (hA : Nm A) (a0 : ∀ p ∈ A, 0 ≤ p.1) (h : Re A i f out) (hi : i < A.length) : Re A (i + 1) A[i].2 (if f < A[i].1 then out ++ [(f, A[i].1)] else out) := by
  have hAi := nm_at hA hi
  obtain ⟨f0, gap⟩ := re_gap hA a0 h
  have inA : ∀ t, A[i].1 ≤ t → t < A[i].2 → inS A t = true := fun t h1 h2 => in_idx.mpr ⟨i, hi, h1, h2⟩
  have fle : f ≤ A[i].1 := by
    have := a0 A[i] (List.getElem_mem _)
    rcases h.fr with ⟨_, e⟩ | ⟨a, hh, h1, h2⟩
    · omega
    · have := nm_idx hA hh hi (by omega)
      omega
  have key : ∀ t, (0 ≤ t ∧ t < A[i].2 ∧ inS A t = false) ↔ ((0 ≤ t ∧ t < f ∧ inS A t = false) ∨ (f ≤ t ∧ t < A[i].1)) := fun t => by
    constructor
    · rintro ⟨z1, z2, z3⟩
      by_cases c : t < f
      · exact .inl ⟨z1, c, z3⟩
      · refine .inr ⟨by omega, ?_⟩
        apply Int.lt_of_not_ge
        intro z
        rw [inA t z z2] at z3
        cases z3
    · rintro (⟨z1, z2, z3⟩ | ⟨z1, z2⟩)
      · exact ⟨z1, by omega, z3⟩
      · exact ⟨by omega, by omega, gap t z1 fun _ => z2⟩
  split
  · rename_i c
    refine ⟨nm_app h.nm c fun p hp => h.en p hp, fun t => ?_, fun p hp => ?_, fun p hp => ?_, .inr ⟨i, hi, rfl, rfl⟩, by rw [List.length_append]; have := h.len; simp; omega⟩
    · rw [inS_append, Bool.or_eq_true, h.ins, inS_one, Bool.and_eq_true, decide_eq_true_eq, decide_eq_true_eq, key]
    · rcases List.mem_append.mp hp with z | z
      · have := h.en p z; omega
      · rw [List.mem_singleton.mp z]; exact hAi
    · rcases List.mem_append.mp hp with z | z
      · exact h.lo p z
      · rw [List.mem_singleton.mp z]; exact f0
  · rename_i c
    refine ⟨h.nm, fun t => ?_, fun p hp => by have := h.en p hp; omega, h.lo, .inr ⟨i, hi, rfl, rfl⟩, by have := h.len; omega⟩
    rw [h.ins, key]
    constructor
    · exact .inl
    · rintro (z | z)
      · exact z
      · omega
theorem re_end {A out : List (Int × Int)} {f : Int} (hA : Nm A) (a0 : ∀ p ∈ A, 0 ≤ p.1) (a1 : ∀ p ∈ A, p.2 ≤ 20000) (h : Re A A.length f out) :
    Nm (if f < 20000 then out ++ [(f, 20000)] else out) ∧ (∀ p ∈ (if f < 20000 then out ++ [(f, 20000)] else out), 0 ≤ p.1 ∧ p.2 ≤ 20000) ∧ (if f < 20000 then out ++ [(f, 20000)] else out).length ≤ A.length + 1 ∧ ∀ t, inS (if f < 20000 then out ++ [(f, 20000)] else out) t = (decide (0 ≤ t ∧ t < 20000) && !inS A t) := by
  obtain ⟨f0, gap⟩ := re_gap hA a0 h
  have fle : f ≤ 20000 := by
    rcases h.fr with ⟨_, e⟩ | ⟨a, hh, h1, h2⟩
    · omega
    · have := a1 A[a] (List.getElem_mem _); omega
  have gap2 : ∀ t, f ≤ t → inS A t = false := fun t z => gap t z fun hi => absurd hi (Nat.lt_irrefl _)
  have key : ∀ t, (decide (0 ≤ t ∧ t < 20000) && !inS A t) = true ↔ ((0 ≤ t ∧ t < f ∧ inS A t = false) ∨ (f ≤ t ∧ t < 20000)) := fun t => by
    rw [Bool.and_eq_true, decide_eq_true_eq, Bool.not_eq_true']
    constructor
    · rintro ⟨⟨z1, z2⟩, z3⟩
      by_cases c : t < f
      · exact .inl ⟨z1, c, z3⟩
      · exact .inr ⟨by omega, z2⟩
    · rintro (⟨z1, z2, z3⟩ | ⟨z1, z2⟩)
      · exact ⟨⟨z1, by omega⟩, z3⟩
      · exact ⟨⟨by omega, z2⟩, gap2 t z1⟩
  split
  · rename_i c
    refine ⟨nm_app h.nm c h.en, fun p hp => ?_, by rw [List.length_append]; have := h.len; simp; omega, fun t => ?_⟩
    · rcases List.mem_append.mp hp with z | z
      · have := h.en p z; exact ⟨h.lo p z, by omega⟩
      · rw [List.mem_singleton.mp z]; exact ⟨f0, Int.le_refl _⟩
    · rw [Bool.eq_iff_iff, key, inS_append, Bool.or_eq_true, h.ins, inS_one, Bool.and_eq_true, decide_eq_true_eq, decide_eq_true_eq]
  · rename_i c
    refine ⟨h.nm, fun p hp => ⟨h.lo p hp, by have := h.en p hp; omega⟩, by have := h.len; omega, fun t => ?_⟩
    rw [Bool.eq_iff_iff, key, h.ins]
    constructor
    · exact .inl
    · rintro (z | z)
      · exact z
      · omega
/-- moved: i spans are done -/
structure Mo (A : List (Int × Int)) (n : Int) (i : Nat) (out : List (Int × Int)) : Prop where
  nm : Nm out
  ins : ∀ t, inS out t = true ↔ (0 ≤ t ∧ t < 20000) ∧ inS (A.take i) (t - n) = true
  en : ∀ p ∈ out, ∃ (a : Nat) (h : a < A.length), a < i ∧ p.2 ≤ A[a].2 + n
  ok : ∀ p ∈ out, 0 ≤ p.1 ∧ p.2 ≤ 20000
  len : out.length ≤ i
theorem mo_0 (A : List (Int × Int)) (n : Int) : Mo A n 0 [] := ⟨⟨by simp, List.Pairwise.nil⟩, fun t => by simp [inS], by simp, by simp, Nat.le_refl _⟩
theorem mo_step {A out : List (Int × Int)} {n : Int} {i : Nat} (hA : Nm A) (h : Mo A n i out) (hi : i < A.length) :
    Mo A n (i + 1) (if max (A[i].1 + n) 0 < min (A[i].2 + n) 20000 then out ++ [(max (A[i].1 + n) 0, min (A[i].2 + n) 20000)] else out) := by
  have hAi := nm_at hA hi
  have key : ∀ t, inS (A.take (i + 1)) (t - n) = true ↔ (inS (A.take i) (t - n) = true ∨ (A[i].1 + n ≤ t ∧ t < A[i].2 + n)) := fun t => by
    rw [take_one hi, inS_append, Bool.or_eq_true, inS_one, Bool.and_eq_true, decide_eq_true_eq, decide_eq_true_eq]
    constructor
    · rintro (z | z)
      · exact .inl z
      · exact .inr ⟨by omega, by omega⟩
    · rintro (z | z)
      · exact .inl z
      · exact .inr ⟨by omega, by omega⟩
  split
  · rename_i c
    refine ⟨nm_app h.nm c fun p hp => ?_, fun t => ?_, fun p hp => ?_, fun p hp => ?_, by rw [List.length_append]; have := h.len; simp; omega⟩
    · obtain ⟨a, ha, h1, h2⟩ := h.en p hp
      have := nm_idx hA ha hi h1
      omega
    · rw [inS_append, Bool.or_eq_true, h.ins, inS_one, Bool.and_eq_true, decide_eq_true_eq, decide_eq_true_eq, key]
      constructor
      · rintro (⟨z1, z2⟩ | z)
        · exact ⟨z1, .inl z2⟩
        · exact ⟨by omega, .inr (by omega)⟩
      · rintro ⟨z1, z2 | z2⟩
        · exact .inl ⟨z1, z2⟩
        · exact .inr (by omega)
    · rcases List.mem_append.mp hp with z | z
      · obtain ⟨a, ha, h1, h2⟩ := h.en p z
        exact ⟨a, ha, by omega, h2⟩
      · rw [List.mem_singleton.mp z]
        exact ⟨i, hi, by omega, by show min _ _ ≤ _; omega⟩
    · rcases List.mem_append.mp hp with z | z
      · exact h.ok p z
      · rw [List.mem_singleton.mp z]
        exact ⟨by show 0 ≤ max _ _; omega, by show min _ _ ≤ _; omega⟩
  · rename_i c
    refine ⟨h.nm, fun t => ?_, fun p hp => ?_, h.ok, by have := h.len; omega⟩
    · rw [h.ins, key]
      constructor
      · rintro ⟨z1, z2⟩; exact ⟨z1, .inl z2⟩
      · rintro ⟨z1, z2 | z2⟩
        · exact ⟨z1, z2⟩
        · omega
    · obtain ⟨a, ha, h1, h2⟩ := h.en p hp
      exact ⟨a, ha, by omega, h2⟩
/-- counted -/
def term (d m : Int) (p : Int × Int) : Int := max 0 (min p.2 (d + 1) - max p.1 (d + 1 - m))
def cov (ps : List (Int × Int)) (m d : Int) : Int := (ps.map (term d m)).sum
theorem sum_zero {α : Type} {f : α → Int} : ∀ {l : List α}, (∀ x ∈ l, f x = 0) → (l.map f).sum = 0
  | [], _ => rfl
  | a :: r, h => by rw [List.map_cons, List.sum_cons, h a (by simp), sum_zero fun x hx => h x (by simp [hx])]; rfl
theorem cov_drop {ps : List (Int × Int)} {m d : Int} (k : Nat) (h : ∀ (i : Nat) (hi : i < ps.length), i < k → ps[i].2 ≤ d + 1 - m) : cov ps m d = ((ps.drop k).map (term d m)).sum := by
  unfold cov
  have e : ((ps.take k ++ ps.drop k).map (term d m)).sum = ((ps.drop k).map (term d m)).sum := by
    rw [List.map_append, List.sum_append, sum_zero (f := term d m) fun p hp => ?_, Int.zero_add]
    obtain ⟨i, hi, rfl⟩ := List.getElem_of_mem hp
    rw [List.length_take] at hi
    rw [List.getElem_take]
    have := h i (by omega) (by omega)
    unfold term
    omega
  rw [List.take_append_drop] at e
  exact e
theorem cov_last {ps : List (Int × Int)} {m d : Int} (k : Nat) (h : ∀ (i : Nat) (hi : i < ps.length), k ≤ i → d < ps[i].1) : ((ps.drop k).map (term d m)).sum = 0 := by
  refine sum_zero fun p hp => ?_
  obtain ⟨i, hi, rfl⟩ := List.getElem_of_mem hp
  rw [List.length_drop] at hi
  rw [List.getElem_drop]
  have := h (k + i) (by omega) (by omega)
  unfold term
  omega
theorem cov_step {ps : List (Int × Int)} {m d : Int} {k : Nat} (hk : k < ps.length) (h1 : ps[k].1 ≤ d) (h2 : d - m + 1 < ps[k].2) (h3 : ps[k].1 < ps[k].2) (hm : 1 ≤ m) : ((ps.drop (k + 1)).map (term d m)).sum + (min ps[k].2 (d + 1) - max ps[k].1 (d - m + 1)) = ((ps.drop k).map (term d m)).sum := by
  rw [List.drop_eq_getElem_cons hk, List.map_cons, List.sum_cons]
  unfold term
  omega
end Mi.P

namespace Mi.P
open PySem PySem.Spec PyProof.Rows L2 TL
/-! plain: signs -/
def Asc (x : Str) : Prop := ∀ c ∈ tl x, c < 128
theorem dig_asc : ∀ c, c < 128 → Unicode.isDigit c = (decide (48 ≤ c) && decide (c ≤ 57)) := by decide +kernel
theorem isdigit_ad {x : Str} (h : Asc x) : Txt.isdigit x = adB x := by
  unfold Txt.isdigit adB
  have e1 : decide (x.length > 0) = !(tl x).isEmpty := by
    rw [len_tl]
    cases tl x <;> simp
  have e2 : x.cps.all Unicode.isDigit = (tl x).all fun c => decide (48 ≤ c) && decide (c ≤ 57) := by
    rw [← Array.all_toList]
    have : ∀ l : List Nat, (∀ c ∈ l, c < 128) → l.all Unicode.isDigit = l.all fun c => decide (48 ≤ c) && decide (c ≤ 57) := fun l => by
      induction l with
      | nil => intro _; rfl
      | cons a r ih =>
        intro hl
        rw [List.all_cons, List.all_cons, dig_asc a (hl a (by simp)), ih fun c hc => hl c (by simp [hc])]
    exact this _ h
  rw [e1, e2]
theorem ad_int {x : Str} (h : adB x = true) (hl : x.length ≤ 640) : intText? x = some (valS x) := by
  unfold adB at h
  rw [Bool.and_eq_true] at h
  refine intText_digits (fun c hc => ?_) (fun z => ?_) (by omega)
  · have := List.all_eq_true.mp h.2 c hc
    simpa using this
  · have h1 := h.1
    rw [show tl x = [] from z] at h1
    cases h1
theorem par_mem {S : List Nat} : ∀ (l acc a b : List Nat), par S acc l = some (a, b) → (∀ c ∈ a, c ∈ acc ∨ c ∈ l) ∧ (∀ c ∈ b, c ∈ l) ∧ a.length ≤ acc.length + l.length ∧ b.length ≤ l.length
  | [], acc, a, b, h => by cases h
  | c :: r, acc, a, b, h => by
    cases hp : pre S (c :: r) with
    | true =>
      rw [par_hit hp] at h
      cases h
      exact ⟨fun c hc => .inl hc, fun x hx => List.mem_of_mem_drop hx, by omega, by rw [List.length_drop]; omega⟩
    | false =>
      rw [par_miss hp] at h
      obtain ⟨h1, h2, h3, h4⟩ := par_mem r _ a b h
      refine ⟨fun x hx => ?_, fun x hx => List.mem_cons_of_mem _ (h2 x hx), by rw [List.length_append] at h3; simp at h3 ⊢; omega, by simp; omega⟩
      rcases h1 x hx with z | z
      · rcases List.mem_append.mp z with z | z
        · exact .inl z
        · rw [List.mem_singleton.mp z]; exact .inr (by simp)
      · exact .inr (by simp [z])
theorem part_parts (x : Str) : (∀ c ∈ tl (Txt.partition x "-").1, c ∈ tl x) ∧ (∀ c ∈ tl (Txt.partition x "-").2.2, c ∈ tl x) ∧ (Txt.partition x "-").1.length ≤ x.length ∧ (Txt.partition x "-").2.1.length ≤ 1 ∧ (Txt.partition x "-").2.2.length ≤ x.length := by
  rw [partition_par x "-" (by rw [tl_dash]; simp)]
  cases h : par (tl ("-" : Str)) [] (tl x) with
  | none =>
    show (∀ c ∈ tl x, c ∈ tl x) ∧ (∀ c ∈ tl Str.empty, c ∈ tl x) ∧ x.length ≤ x.length ∧ Str.empty.length ≤ 1 ∧ Str.empty.length ≤ x.length
    exact ⟨fun c hc => hc, fun c hc => (by simp [tl, Str.empty] at hc), Nat.le_refl _, Nat.zero_le _, Nat.zero_le _⟩
  | some p =>
    obtain ⟨a, b⟩ := p
    obtain ⟨h1, h2, h3, h4⟩ := par_mem _ _ _ _ h
    refine ⟨fun c hc => (h1 c hc).elim (fun z => by cases z) id, h2, ?_, by rw [dash_len]; exact Nat.le_refl _, ?_⟩
    · rw [len_tl, len_tl x]; simp at h3; exact h3
    · rw [len_tl, len_tl x]; exact h4
theorem joinL_mem {S : List Nat} : ∀ {ps : List (List Nat)} {p : List Nat}, p ∈ ps → (∀ c ∈ p, c ∈ joinL S ps) ∧ p.length ≤ (joinL S ps).length
  | [], _, h => by cases h
  | [q], p, h => by rw [List.mem_singleton.mp h]; exact ⟨fun c hc => hc, Nat.le_refl _⟩
  | q :: r :: rs, p, h => by
    show (∀ c ∈ p, c ∈ q ++ (S ++ joinL S (r :: rs))) ∧ p.length ≤ (q ++ (S ++ joinL S (r :: rs))).length
    rcases List.mem_cons.mp h with z | z
    · rw [z]
      exact ⟨fun c hc => by simp [hc], by simp⟩
    · obtain ⟨h1, h2⟩ := joinL_mem (S := S) z
      refine ⟨fun c hc => by simp [h1 c hc], ?_⟩
      rw [List.length_append, List.length_append]
      omega
theorem joinL_cnt {S : List Nat} (hS : 1 ≤ S.length) : ∀ ps : List (List Nat), ps.length ≤ (joinL S ps).length + 1
  | [] => by simp
  | [q] => by simp
  | q :: r :: rs => by
    have ih := joinL_cnt hS (r :: rs)
    show (q :: r :: rs).length ≤ (q ++ (S ++ joinL S (r :: rs))).length + 1
    rw [List.length_append, List.length_append, List.length_cons]
    omega
theorem pieces (x : Str) : (∀ p ∈ Txt.split x ",", (∀ c ∈ tl p, c ∈ tl x) ∧ p.length ≤ x.length) ∧ (Txt.split x ",").length ≤ x.length + 1 := by
  have e := StrLaws.join_split x ","
  have e2 : joinL (tl ("," : Str)) ((Txt.split x ",").map tl) = tl x := by rw [← tl_join, e]
  refine ⟨fun p hp => ?_, ?_⟩
  · obtain ⟨h1, h2⟩ := joinL_mem (S := tl ("," : Str)) (List.mem_map.mpr ⟨p, hp, rfl⟩ : tl p ∈ (Txt.split x ",").map tl)
    rw [e2] at h1 h2
    rw [len_tl, len_tl x]
    exact ⟨h1, h2⟩
  · have := joinL_cnt (S := tl ("," : Str)) (by rw [tl_comma]; decide) ((Txt.split x ",").map tl)
    rw [e2, List.length_map] at this
    rw [len_tl x]
    exact this
theorem mapO_drop {α β : Type} {g : α → Option β} {xs : List α} {i : Nat} {f : List β} (hi : i < xs.length) (h : mapO g xs = (mapO g (xs.drop i)).map (f ++ ·)) :
    (∀ b, g xs[i] = some b → mapO g xs = (mapO g (xs.drop (i + 1))).map (f ++ [b] ++ ·)) ∧ (g xs[i] = none → mapO g xs = none) := by
  have e0 : mapO g (xs.drop i) = (g xs[i]).bind fun b => (mapO g (xs.drop (i + 1))).map (b :: ·) := by
    rw [List.drop_eq_getElem_cons hi]
    rfl
  rw [e0] at h
  constructor
  · intro b e
    rw [h, e]
    cases mapO g (xs.drop (i + 1)) <;> simp
  · intro e
    rw [h, e]
    rfl
theorem mapO_done {α β : Type} {g : α → Option β} {xs : List α} {f : List β} (h : mapO g xs = (mapO g (xs.drop xs.length)).map (f ++ ·)) : mapO g xs = some f := by
  rw [h, List.drop_length]
  show some (f ++ []) = some f
  rw [List.append_nil]
end Mi.P

namespace Mi.P
open PySem PySem.Spec PyProof.Rows L2 TL
/-! plain: texts as lists of signs: replace, find, slices, lstrip, int -/
theorem repl1 (c : Nat) (z : List Nat) : ∀ l : List Nat, StrLaws.replL [c] z l = l.flatMap fun k => if k = c then z else [k]
  | [] => by rw [StrLaws.replL_nil]; rfl
  | a :: r => by
    rw [List.flatMap_cons]
    by_cases h : a = c
    · subst h
      rw [StrLaws.replL_hit (by simp) (by simp), if_pos rfl]
      show z ++ StrLaws.replL [a] z r = _
      rw [repl1 a z r]
    · rw [StrLaws.replL_miss (by simpa using h), if_neg h, repl1 c z r]
      rfl
theorem tl_repl {x y z : Str} {c : Nat} (hy : tl y = [c]) : tl (Txt.replace x y z) = (tl x).flatMap fun k => if k = c then tl z else [k] := by
  have h1 : 1 ≤ y.length := by rw [len_tl, hy]; exact Nat.le_refl _
  have := StrLaws.replace_list (x := x) (z := z) h1
  show (Txt.replace x y z).cps.toList = _
  rw [this, show y.cps.toList = [c] from hy, repl1]
def esc1 (k : Nat) : List Nat := if k = 92 then [92, 92] else if k = 34 then [92, 34] else if k = 10 then [92, 110] else [k]
def esc (l : List Nat) : List Nat := l.flatMap esc1
theorem esc_chain (l : List Nat) : ((l.flatMap fun k => if k = 92 then [92, 92] else [k]).flatMap fun k => if k = 34 then [92, 34] else [k]).flatMap (fun k => if k = 10 then [92, 110] else [k]) = esc l := by
  induction l with
  | nil => rfl
  | cons a r ih =>
    unfold esc at ih ⊢
    rw [List.flatMap_cons, List.flatMap_cons, List.flatMap_append, List.flatMap_append, ih]
    congr 1
    unfold esc1
    by_cases h1 : a = 92
    · subst h1; rfl
    · by_cases h2 : a = 34
      · subst h2; rfl
      · by_cases h3 : a = 10
        · subst h3; rfl
        · simp [h1, h2, h3]
theorem esc_cons (a : Nat) (r : List Nat) : esc (a :: r) = esc1 a ++ esc r := List.flatMap_cons ..
theorem esc_len (l : List Nat) : (esc l).length ≤ 2 * l.length := by
  induction l with
  | nil => exact Nat.le_refl _
  | cons a r ih =>
    rw [esc_cons, List.length_append, List.length_cons]
    have : (esc1 a).length ≤ 2 := by unfold esc1; split <;> (try split) <;> (try split) <;> simp
    omega
/-- a sign that is not replaced -/
def plainC (k : Nat) : Bool := decide (k ≠ 92) && decide (k ≠ 34) && decide (k ≠ 10)
theorem esc_plain {l : List Nat} (h : ∀ k ∈ l, plainC k = true) : esc l = l := by
  induction l with
  | nil => rfl
  | cons a r ih =>
    rw [esc_cons, ih fun k hk => h k (by simp [hk])]
    have := h a (by simp)
    unfold plainC at this
    simp only [Bool.and_eq_true, decide_eq_true_eq] at this
    unfold esc1
    rw [if_neg this.1.1, if_neg this.1.2, if_neg this.2]
    rfl
theorem one_eq {y : Str} {c : Nat} (hy : tl y = [c]) : y = ⟨#[c]⟩ := ext_tl hy
theorem fromN {n k : Nat} (h : k ≤ n) : fromIndex n (k : Int) = k := by unfold fromIndex; rw [if_neg (by omega)]; omega
theorem get_app {pre r post : List Nat} {c k : Nat} (h1 : pre.length ≤ k) (h2 : k < pre.length + r.length) (h : (pre ++ (r ++ post))[k]? = some c) : c ∈ r := by
  rw [List.getElem?_append_right h1, List.getElem?_append_left (by omega)] at h
  exact List.mem_of_getElem? h
theorem find3_at {x y : Str} {c : Nat} {pre r post : List Nat} (hy : tl y = [c]) (hx : tl x = pre ++ (r ++ c :: post)) (hr : c ∉ r) : Txt.find3 x y (pre.length : Int) = ((pre.length + r.length : Nat) : Int) := by
  have hl : x.length = pre.length + (r.length + (1 + post.length)) := by rw [len_tl, hx]; simp; omega
  have hat : x.cps.toList[pre.length + r.length]? = some c := by
    show (tl x)[_]? = _
    rw [hx, List.getElem?_append_right (by omega), List.getElem?_append_right (by omega)]
    simp
  rw [one_eq hy]
  have fr : fromIndex x.length (pre.length : Int) = pre.length := fromN (by omega)
  rcases StrLaws.find3_spec x c (pre.length : Int) with ⟨_, h⟩ | ⟨k, e, h1, h2, h3, h4⟩
  · rw [fr] at h
    exact absurd (StrLaws.getD_of_getElem? hat) (h (pre.length + r.length) (by omega) (by omega))
  · rw [fr] at h1 h4
    rw [e]
    by_cases q : k < pre.length + r.length
    · have := StrLaws.getElem?_of_getD h2 h3
      rw [show x.cps.toList = pre ++ (r ++ c :: post) from hx] at this
      exact absurd (get_app h1 q this) hr
    · by_cases q2 : pre.length + r.length < k
      · exact absurd (StrLaws.getD_of_getElem? hat) (h4 (pre.length + r.length) (by omega) q2)
      · congr 1; omega
theorem occ_hi (x : Str) (c lo hi : Nat) (hh : hi ≤ x.length) : (Builtin.Str.occurrences x ⟨#[c]⟩ lo hi 1 = [] ∧ ∀ i, lo ≤ i → i < hi → x.cps.toList[i]? ≠ some c) ∨
    ∃ i r, Builtin.Str.occurrences x ⟨#[c]⟩ lo hi 1 = i :: r ∧ lo ≤ i ∧ i < hi ∧ x.cps.toList[i]? = some c ∧ ∀ k, lo ≤ k → k < i → x.cps.toList[k]? ≠ some c := by
  have one : (⟨#[c]⟩ : Str).length = 1 := rfl
  have at_ : ∀ i, StrLaws.At x ⟨#[c]⟩ hi i ↔ i < hi ∧ x.cps.toList[i]? = some c := fun i => by
    unfold StrLaws.At
    constructor
    · rintro ⟨h1, h2⟩
      exact ⟨by omega, (StrLaws.subAt_one x c i).mp ⟨by omega, h2⟩⟩
    · rintro ⟨h1, h2⟩
      exact ⟨by omega, ((StrLaws.subAt_one x c i).mpr h2).2⟩
  rw [StrLaws.occ_eq]
  rcases StrLaws.occ_first x ⟨#[c]⟩ hi 1 (Nat.le_refl 1) (List.range' lo (hi + 1 - lo)) lo (fun i hi => by have := List.mem_range'_1.mp hi; omega) with ⟨h0, hn⟩ | ⟨pre, a, post, e, h0, ha, hn⟩
  · refine .inl ⟨by rw [h0], fun i hlo hi2 z => hn i (by rw [List.mem_range'_1]; omega) ((at_ i).mpr ⟨hi2, z⟩)⟩
  · have hs := StrLaws.range'_split_from e
    refine .inr ⟨a, ((forIn (List.range' lo (hi + 1 - lo)) ((#[] : Array Nat), lo) (StrLaws.occBody x ⟨#[c]⟩ hi 1)).run.fst.toList).tail, ?_, hs.1, ((at_ a).mp ha).1, ((at_ a).mp ha).2, fun k hk0 hk z => hn k (hs.2 k hk0 hk) ((at_ k).mpr ⟨by have := ((at_ a).mp ha).1; omega, z⟩)⟩
    generalize (forIn (List.range' lo (hi + 1 - lo)) ((#[] : Array Nat), lo) (StrLaws.occBody x ⟨#[c]⟩ hi 1)).run.fst = arr at h0
    have h1 : arr.toList[0]? = some a := by simpa using h0
    cases hL : arr.toList with
    | nil => rw [hL] at h1; cases h1
    | cons b t => rw [hL] at h1; simp at h1; rw [h1]; rfl
theorem toN {n k : Nat} (h : k ≤ n) : toIndexW n (k : Int) = k := by unfold toIndexW; rw [if_neg (by omega)]; omega
theorem find4_at {x y : Str} {c : Nat} {pre r post : List Nat} {j : Nat} (hy : tl y = [c]) (hx : tl x = pre ++ (r ++ c :: post)) (hr : c ∉ r) (hj : pre.length + r.length < j) (hj2 : j ≤ x.length) : Txt.findIn x y (pre.length : Int) (j : Int) = ((pre.length + r.length : Nat) : Int) := by
  have hl : x.length = pre.length + (r.length + (1 + post.length)) := by rw [len_tl, hx]; simp; omega
  have hat : x.cps.toList[pre.length + r.length]? = some c := by
    show (tl x)[_]? = _
    rw [hx, List.getElem?_append_right (by omega), List.getElem?_append_right (by omega)]
    simp
  unfold Txt.findIn
  rw [one_eq hy, fromN (n := x.length) (k := pre.length) (by omega), toN hj2]
  rcases occ_hi x c pre.length j hj2 with ⟨_, h⟩ | ⟨k, q, e, h1, h2, h3, h4⟩
  · exact absurd hat (h (pre.length + r.length) (by omega) hj)
  · rw [e]
    show (k : Int) = _
    by_cases q : k < pre.length + r.length
    · rw [show x.cps.toList = pre ++ (r ++ c :: post) from hx] at h3
      exact absurd (get_app h1 q h3) hr
    · by_cases q2 : pre.length + r.length < k
      · exact absurd hat (h4 (pre.length + r.length) (by omega) q2)
      · congr 1; omega
theorem find4_no {x y : Str} {c : Nat} {pre r post : List Nat} {j : Nat} (hy : tl y = [c]) (hx : tl x = pre ++ (r ++ post)) (hr : c ∉ r) (hj : j = pre.length + r.length) : Txt.findIn x y (pre.length : Int) (j : Int) = -1 := by
  have hl : x.length = pre.length + (r.length + post.length) := by rw [len_tl, hx]; simp
  have hj2 : j ≤ x.length := by omega
  unfold Txt.findIn
  rw [one_eq hy, fromN (n := x.length) (k := pre.length) (by omega), toN hj2]
  rcases occ_hi x c pre.length j hj2 with ⟨e, h⟩ | ⟨k, q, e, h1, h2, h3, h4⟩
  · rw [e]
  · rw [show x.cps.toList = pre ++ (r ++ post) from hx] at h3
    exact absurd (get_app h1 (by omega) h3) hr
theorem cut_ij (x : Str) (i j : Nat) (hi : i ≤ x.length) : tl (cutS x (some (i : Int)) (some (j : Int))) = ((tl x).drop i).take (j - i) := by
  have e : tl (cutS x (some (i : Int)) (some (j : Int))) = ((tl x).drop (HT.sIx x.length 0 (some (i : Int)))).take (HT.sIx x.length x.length (some (j : Int)) - HT.sIx x.length 0 (some (i : Int))) := rfl
  rw [e, HT.sIx_nat, HT.sIx_nat, Nat.min_eq_left hi]
  have hl : ((tl x).drop i).length = x.length - i := by rw [List.length_drop, ← len_tl]
  by_cases h : j ≤ x.length
  · rw [Nat.min_eq_left h]
  · rw [Nat.min_eq_right (by omega), List.take_of_length_le (by omega), List.take_of_length_le (by omega)]
theorem cut_app {x : Str} {pre r post : List Nat} {i j : Nat} (hx : tl x = pre ++ (r ++ post)) (hi : i = pre.length) (hj : j = pre.length + r.length) : tl (cutS x (some (i : Int)) (some (j : Int))) = r := by
  have hl : x.length = pre.length + (r.length + post.length) := by rw [len_tl, hx]; simp
  rw [cut_ij x i j (by omega), hx, hi, hj, List.drop_left, Nat.add_sub_cancel_left, List.take_left]
theorem lstrip_len (x y : Str) : (Txt.lstripChars x y).length = x.length - ((tl x).takeWhile y.cps.contains).length := by
  have hw : ((tl x).takeWhile y.cps.contains).length ≤ x.length := by rw [len_tl]; exact takeWhile_len_le _ _
  unfold Txt.lstripChars Txt.stripBy
  split
  · rename_i h
    unfold stripSame at h
    rw [Bool.and_eq_true, beq_iff_eq] at h
    have : ((tl x).takeWhile y.cps.contains).length = 0 := h.1
    omega
  · unfold stripped
    have e : stripLo y.cps.contains true x = ((tl x).takeWhile y.cps.contains).length := rfl
    have e2 : stripHi y.cps.contains false x (stripLo y.cps.contains true x) = x.length := rfl
    rw [e2, e]
    show (x.cps.extract _ x.cps.size).size = _
    rw [Array.size_extract, Nat.min_self]
    rfl
theorem takeWhile_app {p : Nat → Bool} {a b : List Nat} (ha : ∀ k ∈ a, p k = true) (hb : ∀ k, b.head? = some k → p k = false) : (a ++ b).takeWhile p = a := by
  induction a with
  | nil =>
    cases b with
    | nil => rfl
    | cons k r => simp [hb k rfl]
  | cons k r ih =>
    rw [List.cons_append, List.takeWhile_cons, ha k (by simp), if_pos rfl, ih fun q hq => ha q (by simp [hq])]
theorem tl_neg {n : Nat} (h : 0 < n) : tl (NT (-(n : Int))) = 45 :: numL n := by
  have e : (toString (-(n : Int)) : String) = "-" ++ toString ((n : Nat) : Int) := by
    have := toString_neg (n := -(n : Int)) (by omega)
    rw [this]
    congr 2
    omega
  show tl (Str.ofString (toString (-(n : Int)))) = _
  rw [e]
  show (Str.ofString ("-" ++ toString ((n : Nat) : Int))).cps.toList = _
  rw [signs_ofString, String.toList_append, List.map_append]
  have := PySem.W.KIN.signs_num n
  rw [signs_ofString] at this
  rw [this]
  rfl
/-- a whole number's digits -/
def digL (i : Int) : List Nat := numL i.natAbs
theorem tl_int (i : Int) : tl (NT i) = (if i < 0 then [45] else []) ++ digL i := by
  unfold digL
  by_cases h : i < 0
  · have e : i = -((i.natAbs : Nat) : Int) := by omega
    rw [if_pos h]
    have := tl_neg (n := i.natAbs) (by omega)
    rw [← e] at this
    exact this
  · rw [if_neg h, tl_NT (by omega)]
    have : i.toNat = i.natAbs := by omega
    rw [this]; rfl
theorem digL_dig {i : Int} {c : Nat} (h : c ∈ digL i) : 48 ≤ c ∧ c ≤ 57 := numL_digits _ c h
theorem digL_ne (i : Int) : digL i ≠ [] := numL_ne _
theorem numL_len_lt : ∀ (k n : Nat), n < 10 ^ k → (numL n).length ≤ max 1 k
  | 0, n, h => by rw [numL_lt (by omega)]; exact Nat.le_refl _
  | k + 1, n, h => by
    by_cases c : n < 10
    · rw [numL_lt c]; simp
    · rw [numL_step (by omega), List.length_append]
      have h1 : n / 10 < 10 ^ k := by rw [Nat.pow_succ] at h; omega
      have ih := numL_len_lt k (n / 10) h1
      have e : (numL (n % 10)).length = 1 := by rw [numL_lt (by omega)]; rfl
      have : 1 ≤ k := by
        cases k with
        | zero => omega
        | succ k => omega
      simp at ih ⊢
      omega
theorem digL_len {i : Int} (h : i.natAbs < 10 ^ 20) : (digL i).length ≤ 20 := by
  have := numL_len_lt 20 i.natAbs h
  unfold digL
  omega
theorem digL_pos (i : Int) : 1 ≤ (digL i).length := List.length_pos_iff.mpr (digL_ne i)
theorem digL_head {i : Int} (h : i ≠ 0) : (digL i).head? ≠ some 48 := numL_head (by omega)
theorem digL_zero : digL 0 = [48] := by unfold digL; rw [show (0 : Int).natAbs = 0 from rfl, numL_lt (by decide)]
theorem int_back {x : Str} {i : Int} (hx : tl x = (if i < 0 then [45] else []) ++ digL i) (hl : x.length ≤ 4300) : intText? x = some i := by
  have v : NumText.digitsVal (digL i) = i.natAbs := numL_val _
  by_cases h : i < 0
  · rw [if_pos h] at hx
    rw [intText_neg (x := x) (cs := digL i) hx (fun c hc => digL_dig hc) (digL_ne i) hl]
    congr 1
    rw [v]; omega
  · rw [if_neg h, List.nil_append] at hx
    have hx2 : x.cps.toList = digL i := hx
    rw [intText_digits (x := x) (by rw [hx2]; exact fun c hc => digL_dig hc) (by rw [hx2]; exact digL_ne i) hl, hx2]
    congr 1
    rw [v]; omega
end Mi.P

namespace Mi.P
open PySem PySem.Spec PyProof.Rows L2 TL Mi
/-! plain: how a plain text is read -/
def txt (l : List Nat) : Str := ⟨l.toArray⟩
theorem tl_txt (l : List Nat) : tl (txt l) = l := rfl
theorem txt_eq {x : Str} {l : List Nat} (h : tl x = l) : x = txt l := ext_tl h
theorem txt_len (l : List Nat) : (txt l).length = l.length := by rw [len_tl, tl_txt]
/-- the place of the fault, or the value and the place behind it -/
abbrev Res := Nat ⊕ (D × Nat)
def cl1 (k : Nat) : Bool := decide (32 ≤ k) && decide (k ≤ 126) && decide (k ≠ 37)
def clB (l : List Nat) : Bool := l.all cl1
def dgB (k : Nat) : Bool := decide (48 ≤ k) && decide (k ≤ 57)
def rT : List Nat → Nat → List Nat → Res
  | [], p, _ => .inl p
  | c :: r, p, acc => if c = 34 then .inr (.str (txt acc), p + 1)
    else if c = 92 then (match r with
      | [] => .inl (p + 1)
      | e :: r => if e = 92 ∨ e = 34 ∨ e = 110 then rT r (p + 2) (acc ++ [if e = 110 then 10 else e]) else .inl (p + 1))
    else if cl1 c = true then rT r (p + 1) (acc ++ [c]) else .inl p
theorem rT_nil {p : Nat} {acc : List Nat} : rT [] p acc = .inl p := by unfold rT; rfl
theorem rT_q {r : List Nat} {p : Nat} {acc : List Nat} : rT (34 :: r) p acc = .inr (.str (txt acc), p + 1) := by unfold rT; rfl
theorem rT_s0 {p : Nat} {acc : List Nat} : rT [92] p acc = .inl (p + 1) := by unfold rT; rfl
theorem rT_s1 {r : List Nat} {e p : Nat} {acc : List Nat} (h : e = 92 ∨ e = 34 ∨ e = 110) : rT (92 :: e :: r) p acc = rT r (p + 2) (acc ++ [if e = 110 then 10 else e]) := by
  rw [rT.eq_def]
  simp only
  rw [if_neg (by decide), if_pos trivial, if_pos h]
theorem rT_s2 {r : List Nat} {e p : Nat} {acc : List Nat} (h : ¬ (e = 92 ∨ e = 34 ∨ e = 110)) : rT (92 :: e :: r) p acc = .inl (p + 1) := by
  rw [rT.eq_def]
  simp only
  rw [if_neg (by decide), if_pos trivial, if_neg h]
theorem rT_c {r : List Nat} {c p : Nat} {acc : List Nat} (h1 : c ≠ 34) (h2 : c ≠ 92) (h : cl1 c = true) : rT (c :: r) p acc = rT r (p + 1) (acc ++ [c]) := by
  rw [rT.eq_def]
  simp only
  rw [if_neg h1, if_neg h2, if_pos h]
theorem rT_n {r : List Nat} {c p : Nat} {acc : List Nat} (h1 : c ≠ 34) (h2 : c ≠ 92) (h : cl1 c = false) : rT (c :: r) p acc = .inl p := by
  rw [rT.eq_def]
  simp only
  rw [if_neg h1, if_neg h2, if_neg (by rw [h]; decide)]
theorem rT_seg {s : List Nat} : ∀ {v : List Nat} {p : Nat} {acc : List Nat}, 34 ∉ v → 92 ∉ v → clB v = true → rT (v ++ s) p acc = rT s (p + v.length) (acc ++ v)
  | [], p, acc, _, _, _ => by simp
  | c :: v, p, acc, h1, h2, h => by
    unfold clB at h
    rw [List.all_cons, Bool.and_eq_true] at h
    rw [List.cons_append, rT_c (fun e => h1 (by simp [e])) (fun e => h2 (by simp [e])) h.1, rT_seg (fun z => h1 (by simp [z])) (fun z => h2 (by simp [z])) h.2]
    rw [List.append_assoc, List.length_cons]
    congr 1
    omega
theorem rT_bad {s a r : List Nat} {b p : Nat} {acc : List Nat} (h1 : 34 ∉ a ++ b :: r) (h2 : 92 ∉ a ++ b :: r) (ha : clB a = true) (hb : cl1 b = false) : rT ((a ++ b :: r) ++ s) p acc = .inl (p + a.length) := by
  rw [List.append_assoc, rT_seg (fun z => h1 (by simp [z])) (fun z => h2 (by simp [z])) ha, List.cons_append, rT_n (fun e => h1 (by simp [e])) (fun e => h2 (by simp [e])) hb]
/-- a whole number -/
def stPl (l : List Nat) (p : Nat) : Nat := if l[p]? = some 45 then p + 1 else p
def dsN (l : List Nat) (p : Nat) : List Nat := (l.drop (stPl l p)).takeWhile dgB
def vNum (l : List Nat) (p : Nat) : Int := if l[p]? = some 45 then -(NumText.digitsVal (dsN l p) : Int) else (NumText.digitsVal (dsN l p) : Int)
def rNum (l : List Nat) (p : Nat) : Res :=
  if dsN l p = [] then .inl (stPl l p)
  else if (dsN l p).head? = some 48 ∧ p < stPl l p then .inl (stPl l p)
  else if (dsN l p).head? = some 48 ∧ 1 < (dsN l p).length then .inl (stPl l p + 1)
  else if 20 < (dsN l p).length then .inl (stPl l p + 20)
  else .inr (.int (vNum l p), stPl l p + (dsN l p).length)
def leaf (l : List Nat) (p : Nat) (paren : Res) : Res := match l[p]? with
  | none => .inl p
  | some c => if c = 40 then paren else if c = 34 then rT (l.drop (p + 1)) (p + 1) [] else if c = 45 ∨ (48 ≤ c ∧ c ≤ 57) then rNum l p
    else if c = 84 then .inr (.bl true, p + 1) else if c = 70 then .inr (.bl false, p + 1) else if c = 78 then .inr (.non, p + 1) else .inl p
def rM (V : Nat → Res) (l : List Nat) : Nat → Nat → List D → Res
  | 0, p, _ => .inl p
  | k + 1, p, acc => match V p with
    | .inl q => .inl q
    | .inr (d, e) => if l[e]? = some 32 then rM V l k (e + 1) (acc ++ [d]) else if l[e]? = some 41 then .inr (.tup (acc ++ [d]), e + 1) else .inl e
def rP (V : Nat → Res) (l : List Nat) (p : Nat) : Res := if l[p + 1]? = some 41 then .inr (.tup [], p + 2) else rM V l (l.length + 1) (p + 1) []
def rV (l : List Nat) : Nat → Nat → Res
  | 0, p => leaf l p (.inl p)
  | m + 1, p => leaf l p (rP (rV l m) l p)
/-- a value that was read ends behind its beginning -/
def Fwd (l : List Nat) (p : Nat) (r : Res) : Prop := ∀ d e, r = .inr (d, e) → p < e ∧ e ≤ l.length
theorem rT_fwd : ∀ (n : Nat) (s : List Nat), s.length ≤ n → ∀ (p : Nat) (acc : List Nat) (d : D) (e : Nat), rT s p acc = .inr (d, e) → p < e ∧ e ≤ p + s.length
  | n, [], _, p, acc, d, e, h => by rw [rT_nil] at h; cases h
  | 0, c :: r, hn, _, _, _, _, _ => by simp at hn
  | n + 1, c :: r, hn, p, acc, d, e, h => by
    rw [List.length_cons] at hn ⊢
    by_cases c1 : c = 34
    · subst c1
      rw [rT_q] at h
      cases h
      omega
    · by_cases c2 : c = 92
      · subst c2
        cases r with
        | nil => rw [rT_s0] at h; cases h
        | cons a r =>
          rw [List.length_cons] at hn ⊢
          by_cases c3 : a = 92 ∨ a = 34 ∨ a = 110
          · rw [rT_s1 c3] at h
            have := rT_fwd n r (by omega) _ _ _ _ h
            omega
          · rw [rT_s2 c3] at h; cases h
      · cases c4 : cl1 c with
        | true =>
          rw [rT_c c1 c2 c4] at h
          have := rT_fwd n r (by omega) _ _ _ _ h
          omega
        | false => rw [rT_n c1 c2 c4] at h; cases h
theorem takeWhile_le (q : Nat → Bool) (l : List Nat) : (l.takeWhile q).length ≤ l.length := by
  induction l with
  | nil => exact Nat.le_refl _
  | cons a r ih =>
    rw [List.takeWhile_cons]
    split
    · rw [List.length_cons, List.length_cons]; omega
    · simp
theorem rNum_fwd {l : List Nat} {p : Nat} (hp : p < l.length) : Fwd l p (rNum l p) := by
  intro d e h
  unfold rNum at h
  have a := takeWhile_le dgB (l.drop (stPl l p))
  have b : stPl l p = p ∨ stPl l p = p + 1 := by unfold stPl; split <;> simp
  rw [List.length_drop] at a
  have a' : (dsN l p).length ≤ l.length - stPl l p := a
  split at h
  · cases h
  · rename_i h0
    have : 1 ≤ (dsN l p).length := List.length_pos_iff.mpr h0
    split at h
    · cases h
    · split at h
      · cases h
      · split at h
        · cases h
        · cases h; omega
theorem leaf_fwd {l : List Nat} {p : Nat} {r : Res} (h : p < l.length → Fwd l p r) : Fwd l p (leaf l p r) := by
  intro d e he
  unfold leaf at he
  cases hc : l[p]? with
  | none => rw [hc] at he; cases he
  | some c =>
    have hp := (List.getElem?_eq_some_iff.mp hc).1
    rw [hc] at he
    simp only at he
    split at he
    · exact h hp d e he
    · split at he
      · have := rT_fwd _ _ (Nat.le_refl _) _ _ _ _ he
        rw [List.length_drop] at this
        omega
      · split at he
        · exact rNum_fwd hp d e he
        · split at he
          · cases he; omega
          · split at he
            · cases he; omega
            · split at he
              · cases he; omega
              · cases he
theorem rM_fwd {V : Nat → Res} {l : List Nat} (hV : ∀ p, Fwd l p (V p)) : ∀ (k p : Nat) (acc : List D), Fwd l p (rM V l k p acc)
  | 0, p, acc, d, e, h => by unfold rM at h; cases h
  | k + 1, p, acc, d, e, h => by
    unfold rM at h
    cases hv : V p with
    | inl q => rw [hv] at h; cases h
    | inr z =>
      obtain ⟨d1, e1⟩ := z
      have f := hV p d1 e1 hv
      rw [hv] at h
      simp only at h
      split at h
      · rename_i h32
        have := rM_fwd hV k (e1 + 1) _ d e h
        omega
      · split at h
        · rename_i h41
          have := (List.getElem?_eq_some_iff.mp h41).1
          cases h
          omega
        · cases h
theorem rP_fwd {V : Nat → Res} {l : List Nat} {p : Nat} (hV : ∀ p, Fwd l p (V p)) : Fwd l p (rP V l p) := by
  intro d e h
  unfold rP at h
  split at h
  · rename_i h41
    have := (List.getElem?_eq_some_iff.mp h41).1
    cases h
    omega
  · have := rM_fwd hV _ _ _ d e h
    omega
theorem rV_fwd (l : List Nat) : ∀ (m p : Nat), Fwd l p (rV l m p)
  | 0, p => by unfold rV; exact leaf_fwd fun _ d e h => by cases h
  | m + 1, p => by unfold rV; exact leaf_fwd fun _ => rP_fwd (rV_fwd l m)
/-- values that are told apart by their parts -/
inductive Sm : Nat → D → Prop where
  | non {n : Nat} : Sm (n + 1) .non
  | bl {n : Nat} (b : Bool) : Sm (n + 1) (.bl b)
  | int {n : Nat} (i : Int) : Sm (n + 1) (.int i)
  | str {n : Nat} (s : Str) : Sm (n + 1) (.str s)
  | tup {n : Nat} {xs : List D} (h : ∀ x ∈ xs, Sm n x) (hl : xs.length ≤ 9000) : Sm (n + 1) (.tup xs)
def Smr (n : Nat) (r : Res) : Prop := ∀ d e, r = .inr (d, e) → Sm n d
theorem rT_sm {n : Nat} : ∀ (k : Nat) (s : List Nat), s.length ≤ k → ∀ (p : Nat) (acc : List Nat), Smr (n + 1) (rT s p acc)
  | k, [], _, p, acc, d, e, h => by rw [rT_nil] at h; cases h
  | 0, c :: r, hn, _, _, _, _, _ => by simp at hn
  | k + 1, c :: r, hn, p, acc, d, e, h => by
    rw [List.length_cons] at hn
    by_cases c1 : c = 34
    · subst c1
      rw [rT_q] at h
      cases h
      exact .str _
    · by_cases c2 : c = 92
      · subst c2
        cases r with
        | nil => rw [rT_s0] at h; cases h
        | cons a r =>
          rw [List.length_cons] at hn
          by_cases c3 : a = 92 ∨ a = 34 ∨ a = 110
          · rw [rT_s1 c3] at h
            exact rT_sm k r (by omega) _ _ _ _ h
          · rw [rT_s2 c3] at h; cases h
      · cases c4 : cl1 c with
        | true =>
          rw [rT_c c1 c2 c4] at h
          exact rT_sm k r (by omega) _ _ _ _ h
        | false => rw [rT_n c1 c2 c4] at h; cases h
theorem leaf_sm {n : Nat} {l : List Nat} {p : Nat} {r : Res} (h : Smr (n + 1) r) : Smr (n + 1) (leaf l p r) := by
  intro d e he
  unfold leaf at he
  cases hc : l[p]? with
  | none => rw [hc] at he; cases he
  | some c =>
    rw [hc] at he
    simp only at he
    split at he
    · exact h d e he
    · split at he
      · exact rT_sm _ _ (Nat.le_refl _) _ _ _ _ he
      · split at he
        · unfold rNum at he
          split at he
          · cases he
          · split at he
            · cases he
            · split at he
              · cases he
              · split at he
                · cases he
                · cases he; exact .int _
        · split at he
          · cases he; exact .bl _
          · split at he
            · cases he; exact .bl _
            · split at he
              · cases he; exact .non
              · cases he
theorem rM_sm {n : Nat} {V : Nat → Res} {l : List Nat} (hl : l.length ≤ 8000) (hV : ∀ p, Smr n (V p)) (hF : ∀ p, Fwd l p (V p)) : ∀ (k p : Nat) (acc : List D), acc.length ≤ p → (∀ x ∈ acc, Sm n x) → Smr (n + 1) (rM V l k p acc)
  | 0, p, acc, _, _, d, e, h => by unfold rM at h; cases h
  | k + 1, p, acc, hp, ha, d, e, h => by
    unfold rM at h
    cases hv : V p with
    | inl q => rw [hv] at h; cases h
    | inr z =>
      obtain ⟨d1, e1⟩ := z
      have s1 := hV p d1 e1 hv
      have f1 := hF p d1 e1 hv
      have ha2 : ∀ x ∈ acc ++ [d1], Sm n x := fun x hx => by
        rcases List.mem_append.mp hx with z | z
        · exact ha x z
        · rw [List.mem_singleton.mp z]; exact s1
      rw [hv] at h
      simp only at h
      split at h
      · exact rM_sm hl hV hF k (e1 + 1) _ (by rw [List.length_append, List.length_singleton]; omega) ha2 d e h
      · split at h
        · cases h
          exact .tup ha2 (by rw [List.length_append, List.length_singleton]; omega)
        · cases h
theorem rV_sm {l : List Nat} (hl : l.length ≤ 8000) : ∀ (m p : Nat), Smr (m + 1) (rV l m p)
  | 0, p => by unfold rV; exact leaf_sm fun d e h => by cases h
  | m + 1, p => by
    unfold rV
    refine leaf_sm ?_
    intro d e h
    unfold rP at h
    split at h
    · cases h; exact .tup (by simp) (by simp)
    · exact rM_sm hl (rV_sm hl m) (rV_fwd l m) _ _ [] (by simp) (by simp) d e h
end Mi.P

namespace Mi.k18
open PySem PySem.Spec PyProof.Rows L2 Mi Mi.P TL
local macro_rules | `(tactic| walk_at "ev") => `(tactic| try simp only [wS_par3, wE_fmtZ, ok_fmtZ, int2_i, int2_b, okM_int2, okM_str, ok_oM, mtOk_sd, tB_s, okM_split, okM_part, okM_join, okM_join1, wE_joined, ok_joinD_nil, ok_joinD_cons, ok_fmt_i, ok_fmt_s, wE_fmt, wS_raise, wS_try, wS_par, wE_chain3, isi_is, isi_st, isi_it, isi_bt, isi_ibs, is_in, is_ib, is_sn, is_sb, is_tn, is_nn, is_bn, is_tt, is_ff, is_tf, is_ft, isn_tn, isn_nn, sl_s, ix_s, tuple_t, wS_seq, seqK_nx, seqK_rt, seqK_bk, seqK_ct, seqK_exc, loopK_nx, loopK_ct, loopK_bk, loopK_rt, loopK_exc, wE_yes, wS_nil, wS_ret, wS_retN, wS_expr, wS_if, wS_set, wS_brk, wS_cnt, wS_frz, wS_asg, wS_aug, wS_never, wS_for, wE_var, wE_c, wE_un, wE_bin, ok_ans, ok_o1, ok_o2, ok_ansT, okM_some, okM_none, okM_bind, okM_map, okM_ite, wE_tru, wE_mB, blW_bl, wE_andT, wE_orT, wE_notT, wE_and, wE_or, wE_not, wE_if, wE_chain, wE_nil, wE_cons, wE_fn, wE_tup, wE_lst, wE_new, ok_tup, ok_lst, ok_new, wE_sl, wE_noPart, wE_part, wE_mth, ok_append, ok_extend, wE_items, wE_rng1, wE_rng2, wE_zip, wE_callP, wE_callS, okP_runP, okR_runS, okR_ok, okR_exc, okR_bad, okP_ok, ok_gSet, ok_gSub, ok_gSeq, ok_gSeqL, ok_gAll_nil, ok_gAll_cons, vw_d, vw_l, okL_s, vws, pures, addD_i, addD_s, addD_l, addD_t, iaddD_i, subD_i, mulD_i, fdivD_i, modD_i, powD_i, negD_i, lt_i, le_i, gt_i, ge_i, eq_i, ne_i, eq_s, ne_s, eq_nl, ne_nl, truD_bl, truD_int, truD_lst, truD_tup, truD_str, truD_non, len_s, len_t, len_l, len_f, int_i, int_b, max2_i, min2_i, tuple_l, intOf_i, isi_ii, isi_bi, isi_tt, isi_ss, isi_ll, mtOk, cellOf, setItem, frzW, ix_t, ix_l, ix_f, sl_t, sl_l, atI_n, atI_0, atI_1, atI_2, atI_3, atI_4, atI_5, atI_6, atI_neg1, ixN_20, ixN_21, cutR, ent, forget, List.map_cons, List.map_nil, List.cons_append, List.nil_append, List.append_nil, List.length_cons, List.length_nil, List.replicate, List.getElem?_cons_zero, List.getElem?_cons_succ, List.getElem?_nil, List.set_cons_zero, List.set_cons_succ, List.set_nil, List.take_succ_cons, List.take_zero, List.take_nil, Option.bind_some, Option.bind_none, id, Nat.reduceAdd, Nat.reduceSub, Nat.reduceEqDiff, decide_eq_true_eq, decide_eq_false_iff_not, Bool.not_eq_true', Bool.not_eq_false', Bool.not_true, Bool.not_false, forall_eq', true_implies, false_implies, implies_true, and_true, true_and, and_self, reduceCtorEq, beq_self_eq_true, List.map_append, getLast?_of, List.isEmpty_nil, List.isEmpty_cons, Bool.false_eq_true, Bool.true_eq_false, forall_const, Nat.le_refl, eq_self, decide_true, decide_false, if_true, if_false, Int.not_lt, Int.not_le])
/-! the text of a plain value -/
mutual
def shP : D → List Nat
  | .non => [78]
  | .bl true => [84]
  | .bl false => [70]
  | .int i => (if i < 0 then [45] else []) ++ digL i
  | .str s => 34 :: (esc (tl s) ++ [34])
  | .tup xs => 40 :: (shPs xs ++ [41])
  | _ => []
def shPs : List D → List Nat
  | [] => []
  | [x] => shP x
  | x :: y :: r => shP x ++ 32 :: shPs (y :: r)
end
/-- a sign that may stand in a text -/
def okC (k : Nat) : Bool := (decide (32 ≤ k) && decide (k ≤ 126) && decide (k ≠ 37)) || decide (k = 10)
mutual
def dep : D → Nat
  | .tup xs => deps xs + 1
  | _ => 0
def deps : List D → Nat
  | [] => 0
  | x :: r => max (dep x) (deps r)
end
/-- plain values as they are drawn -/
inductive Pl : D → Prop where
  | non : Pl .non
  | bl (b : Bool) : Pl (.bl b)
  | int {i : Int} (h : i.natAbs < 10 ^ 20) : Pl (.int i)
  | str {s : Str} (h : ∀ k ∈ tl s, okC k = true) : Pl (.str s)
  | tup {xs : List D} (h : ∀ x ∈ xs, Pl x) : Pl (.tup xs)
theorem shPs_mem {x : D} : ∀ {xs : List D}, x ∈ xs → (shP x).length ≤ (shPs xs).length
  | [y], h => by rw [List.mem_singleton.mp h]; unfold shPs; exact Nat.le_refl _
  | y :: z :: r, h => by
    unfold shPs
    rw [List.length_append, List.length_cons]
    rcases List.mem_cons.mp h with e | e
    · rw [e]; omega
    · have := shPs_mem e; omega
theorem shPs_cnt : ∀ xs : List D, xs.length ≤ (shPs xs).length + 1
  | [] => by simp
  | [y] => by simp
  | y :: z :: r => by
    have := shPs_cnt (z :: r)
    unfold shPs
    simp only [List.length_append, List.length_cons] at this ⊢
    omega
theorem deps_mem {x : D} : ∀ {xs : List D}, x ∈ xs → dep x ≤ deps xs
  | y :: r, h => by
    unfold deps
    rcases List.mem_cons.mp h with e | e
    · rw [e]; omega
    · have := deps_mem e; omega
theorem shPs_join : ∀ (xs : List D) (ys : List Str), xs.map shP = ys.map tl → shPs xs = joinL [32] (ys.map tl)
  | [], [], _ => by unfold shPs; rfl
  | [x], [y], h => by
    unfold shPs
    simp only [List.map_cons, List.map_nil, List.cons.injEq, and_true] at h
    rw [h]; rfl
  | x :: x2 :: r, y :: y2 :: q, h => by
    simp only [List.map_cons, List.cons.injEq] at h
    have ih := shPs_join (x2 :: r) (y2 :: q) (by simp only [List.map_cons, List.cons.injEq]; exact h.2)
    unfold shPs
    rw [ih, h.1]
    rfl
  | [], _ :: _, h => by simp at h
  | [_], [], h => by simp at h
  | _ :: _ :: _, [], h => by simp at h
  | [_], _ :: _ :: _, h => by simp at h
  | _ :: _ :: _, [_], h => by simp at h
theorem tl_q : tl ("\"" : Str) = [34] := by decide +kernel
theorem tl_bs : tl ("\\" : Str) = [92] := by decide +kernel
theorem tl_bs2 : tl ("\\\\" : Str) = [92, 92] := by decide +kernel
theorem tl_bq : tl ("\\\"" : Str) = [92, 34] := by decide +kernel
theorem tl_nl : tl ("\n" : Str) = [10] := by decide +kernel
theorem tl_bn : tl ("\\n" : Str) = [92, 110] := by decide +kernel
theorem tl_sp : tl (" " : Str) = [32] := by decide +kernel
theorem tl_op : tl ("(" : Str) = [40] := by decide +kernel
theorem tl_cl : tl (")" : Str) = [41] := by decide +kernel
theorem tl_N : tl ("N" : Str) = [78] := by decide +kernel
theorem tl_T : tl ("T" : Str) = [84] := by decide +kernel
theorem tl_F : tl ("F" : Str) = [70] := by decide +kernel
theorem tl_e : tl ("" : Str) = [] := by decide +kernel
theorem repl_D {y z x : Str} : replD y z (.str x) = if x.length + (x.length + 1) * z.length ≤ 16777216 then some (.str (Txt.replace x y z)) else none := nrfl rfl
theorem isi_nt : isiD "tuple" D.non = some (.bl false) := nrfl (congrArg (fun b => some (D.bl b)) (show isTy "tuple" "NoneType" = false from by decide))
theorem isi_ii' {i : Int} : isiD "int" (.int i) = some (.bl true) := nrfl (congrArg (fun b => some (D.bl b)) (show isTy "int" "int" = true from by decide))
theorem isi_si {s : Str} : isiD "int" (.str s) = some (.bl false) := nrfl (congrArg (fun b => some (D.bl b)) (show isTy "int" "str" = false from by decide))
theorem isi_ti {s : List D} : isiD "int" (.tup s) = some (.bl false) := nrfl (congrArg (fun b => some (D.bl b)) (show isTy "int" "tuple" = false from by decide))
theorem isi_ss' {s : Str} : isiD "str" (.str s) = some (.bl true) := nrfl (congrArg (fun b => some (D.bl b)) (show isTy "str" "str" = true from by decide))
theorem isi_tstr {s : List D} : isiD "str" (.tup s) = some (.bl false) := nrfl (congrArg (fun b => some (D.bl b)) (show isTy "str" "tuple" = false from by decide))
theorem isi_ttu {s : List D} : isiD "tuple" (.tup s) = some (.bl true) := nrfl (congrArg (fun b => some (D.bl b)) (show isTy "tuple" "tuple" = true from by decide))
theorem isi_stu {s : Str} : isiD "tuple" (.str s) = some (.bl false) := nrfl (congrArg (fun b => some (D.bl b)) (show isTy "tuple" "str" = false from by decide))
theorem is_it {i : Int} {b : Bool} : cmpIs (.int i) (.bl b) = some (.bl false) := nrfl rfl
theorem is_st {i : Str} {b : Bool} : cmpIs (.str i) (.bl b) = some (.bl false) := nrfl rfl
theorem is_tt' {i : List D} {b : Bool} : cmpIs (.tup i) (.bl b) = some (.bl false) := nrfl rfl
theorem is_nb {b : Bool} : cmpIs .non (.bl b) = some (.bl false) := nrfl rfl
theorem esc_repl (s : Str) : tl (Txt.replace (Txt.replace (Txt.replace s "\\" "\\\\") "\"" "\\\"") "\n" "\\n") = esc (tl s) := by
  rw [tl_repl tl_nl, tl_repl tl_q, tl_repl tl_bs, tl_bs2, tl_bq, tl_bn, esc_chain]
theorem repl_len1 (s : Str) : (Txt.replace s "\\" "\\\\").length ≤ 2 * s.length := by
  rw [len_tl, tl_repl tl_bs, tl_bs2, len_tl s]
  induction tl s with
  | nil => simp
  | cons a r ih =>
    rw [List.flatMap_cons, List.length_append, List.length_cons]
    have : (if a = 92 then [92, 92] else [a]).length ≤ 2 := by split <;> simp
    omega
theorem repl_len2 (s : Str) : (Txt.replace s "\"" "\\\"").length ≤ 2 * s.length := by
  rw [len_tl, tl_repl tl_q, tl_bq, len_tl s]
  induction tl s with
  | nil => simp
  | cons a r ih =>
    rw [List.flatMap_cons, List.length_append, List.length_cons]
    have : (if a = 34 then [92, 34] else [a]).length ≤ 2 := by split <;> simp
    omega
end Mi.k18

set_option maxRecDepth 9000
namespace Mi.k18
open PySem PySem.Spec PyProof.Rows L2 Mi Mi.P TL
local macro_rules | `(tactic| walk_at "ev") => `(tactic| try simp only [repl_D, isi_nt, isi_ii', isi_si, isi_ti, isi_ss', isi_tstr, isi_ttu, isi_stu, is_it, is_st, is_tt', is_nb, wS_par3, wE_fmtZ, ok_fmtZ, int2_i, int2_b, okM_int2, okM_str, ok_oM, mtOk_sd, tB_s, okM_split, okM_part, okM_join, okM_join1, wE_joined, ok_joinD_nil, ok_joinD_cons, ok_fmt_i, ok_fmt_s, wE_fmt, wS_raise, wS_try, wS_par, wE_chain3, isi_is, isi_st, isi_it, isi_bt, isi_ibs, is_in, is_ib, is_sn, is_sb, is_tn, is_nn, is_bn, is_tt, is_ff, is_tf, is_ft, isn_tn, isn_nn, sl_s, ix_s, tuple_t, wS_seq, seqK_nx, seqK_rt, seqK_bk, seqK_ct, seqK_exc, loopK_nx, loopK_ct, loopK_bk, loopK_rt, loopK_exc, wE_yes, wS_nil, wS_ret, wS_retN, wS_expr, wS_if, wS_set, wS_brk, wS_cnt, wS_frz, wS_asg, wS_aug, wS_never, wS_for, wE_var, wE_c, wE_un, wE_bin, ok_ans, ok_o1, ok_o2, ok_ansT, okM_some, okM_none, okM_bind, okM_map, okM_ite, wE_tru, wE_mB, blW_bl, wE_andT, wE_orT, wE_notT, wE_and, wE_or, wE_not, wE_if, wE_chain, wE_nil, wE_cons, wE_fn, wE_tup, wE_lst, wE_new, ok_tup, ok_lst, ok_new, wE_sl, wE_noPart, wE_part, wE_mth, ok_append, ok_extend, wE_items, wE_rng1, wE_rng2, wE_zip, wE_callP, wE_callS, okP_runP, okR_runS, okR_ok, okR_exc, okR_bad, okP_ok, ok_gSet, ok_gSub, ok_gSeq, ok_gSeqL, ok_gAll_nil, ok_gAll_cons, vw_d, vw_l, okL_s, vws, pures, addD_i, addD_s, addD_l, addD_t, iaddD_i, subD_i, mulD_i, fdivD_i, modD_i, powD_i, negD_i, lt_i, le_i, gt_i, ge_i, eq_i, ne_i, eq_s, ne_s, eq_nl, ne_nl, truD_bl, truD_int, truD_lst, truD_tup, truD_str, truD_non, len_s, len_t, len_l, len_f, int_i, int_b, max2_i, min2_i, tuple_l, intOf_i, isi_ii, isi_bi, isi_tt, isi_ss, isi_ll, mtOk, cellOf, setItem, frzW, ix_t, ix_l, ix_f, sl_t, sl_l, atI_n, atI_0, atI_1, atI_2, atI_3, atI_4, atI_5, atI_6, atI_neg1, ixN_20, ixN_21, cutR, ent, forget, List.map_cons, List.map_nil, List.cons_append, List.nil_append, List.append_nil, List.length_cons, List.length_nil, List.replicate, List.getElem?_cons_zero, List.getElem?_cons_succ, List.getElem?_nil, List.set_cons_zero, List.set_cons_succ, List.set_nil, List.take_succ_cons, List.take_zero, List.take_nil, Option.bind_some, Option.bind_none, id, Nat.reduceAdd, Nat.reduceSub, Nat.reduceEqDiff, decide_eq_true_eq, decide_eq_false_iff_not, Bool.not_eq_true', Bool.not_eq_false', Bool.not_true, Bool.not_false, forall_eq', true_implies, false_implies, implies_true, and_true, true_and, and_self, reduceCtorEq, beq_self_eq_true, List.map_append, getLast?_of, List.isEmpty_nil, List.isEmpty_cons, Bool.false_eq_true, Bool.true_eq_false, forall_const, Nat.le_refl, eq_self, decide_true, decide_false, if_true, if_false, Int.not_lt, Int.not_le])
theorem len_app (x y : Str) : (x ++ y).length = x.length + y.length := Str.length_append x y
def shD (d : D) : D := .str (txt (shP d))
theorem shPs_joinL : ∀ xs : List D, shPs xs = joinL [32] (xs.map shP)
  | [] => by unfold shPs; rfl
  | [x] => by unfold shPs; rfl
  | x :: y :: r => by
    have ih := shPs_joinL (y :: r)
    unfold shPs
    rw [ih]
    rfl
theorem join_sh (xs : List D) : tl (Txt.join " " (xs.map fun d => txt (shP d))) = shPs xs := by
  rw [join_eq, tl_join, tl_sp, shPs_joinL, List.map_map]
  rfl
theorem log_ok {i : Int} (h : i.natAbs < 10 ^ 20) : i.natAbs.log2 < 1920 := by
  by_cases z : i.natAbs = 0
  · rw [z]; decide
  · exact (Nat.log2_lt z).mpr (Nat.lt_trans h (by decide +kernel))
theorem esc_ge (l : List Nat) : l.length ≤ (esc l).length := by
  induction l with
  | nil => exact Nat.le_refl _
  | cons a r ih =>
    rw [esc_cons, List.length_append, List.length_cons]
    have : 1 ≤ (esc1 a).length := by unfold esc1; split <;> (try split) <;> (try split) <;> simp
    omega
theorem sh_str (s : Str) : (shP (.str s)).length = (esc (tl s)).length + 2 := by unfold shP; simp
theorem sh_tup (xs : List D) : (shP (.tup xs)).length = (shPs xs).length + 2 := by unfold shP; simp
theorem sh_int (i : Int) : tl (NT i) = shP (.int i) := by unfold shP; exact tl_int i
/-- what the three replacings give -/
theorem str_lim {s : Str} (hl : (shP (.str s)).length ≤ 9000) : s.length + (s.length + 1) * (Str.ofString "\\\\").length ≤ 16777216 ∧
    (Txt.replace s (Str.ofString "\\") (Str.ofString "\\\\")).length + ((Txt.replace s (Str.ofString "\\") (Str.ofString "\\\\")).length + 1) * (Str.ofString "\\\"").length ≤ 16777216 ∧
    (Txt.replace (Txt.replace s (Str.ofString "\\") (Str.ofString "\\\\")) (Str.ofString "\"") (Str.ofString "\\\"")).length + ((Txt.replace (Txt.replace s (Str.ofString "\\") (Str.ofString "\\\\")) (Str.ofString "\"") (Str.ofString "\\\"")).length + 1) * (Str.ofString "\\n").length ≤ 16777216 := by
  rw [sh_str] at hl
  have g := esc_ge (tl s)
  rw [← len_tl] at g
  have a1 := repl_len1 s
  have a2 := repl_len2 (Txt.replace s "\\" "\\\\")
  have e1 : (Str.ofString "\\\\").length = 2 := by rw [len_tl, tl_bs2]; rfl
  have e2 : (Str.ofString "\\\"").length = 2 := by rw [len_tl, tl_bq]; rfl
  have e3 : (Str.ofString "\\n").length = 2 := by rw [len_tl, tl_bn]; rfl
  rw [e1, e2, e3]
  omega
theorem str_res {s : Str} : Str.ofString "\"" ++ Txt.replace (Txt.replace (Txt.replace s (Str.ofString "\\") (Str.ofString "\\\\")) (Str.ofString "\"") (Str.ofString "\\\"")) (Str.ofString "\n") (Str.ofString "\\n") ++ Str.ofString "\"" = txt (shP (.str s)) := by
  refine txt_eq ?_
  rw [tl_append, tl_append, tl_q, esc_repl]
  unfold shP
  rfl
theorem str_end {s : Str} (hl : (shP (.str s)).length ≤ 9000) : (Str.ofString "\"").length + (Txt.replace (Txt.replace (Txt.replace s (Str.ofString "\\") (Str.ofString "\\\\")) (Str.ofString "\"") (Str.ofString "\\\"")) (Str.ofString "\n") (Str.ofString "\\n")).length ≤ sizeLine ∧
    (Str.ofString "\"" ++ Txt.replace (Txt.replace (Txt.replace s (Str.ofString "\\") (Str.ofString "\\\\")) (Str.ofString "\"") (Str.ofString "\\\"")) (Str.ofString "\n") (Str.ofString "\\n")).length + (Str.ofString "\"").length ≤ sizeLine := by
  have e : (Txt.replace (Txt.replace (Txt.replace s (Str.ofString "\\") (Str.ofString "\\\\")) (Str.ofString "\"") (Str.ofString "\\\"")) (Str.ofString "\n") (Str.ofString "\\n")).length = (esc (tl s)).length := by rw [len_tl, esc_repl]
  have q : (Str.ofString "\"").length = 1 := by rw [len_tl, tl_q]; rfl
  rw [sh_str] at hl
  rw [len_app, e, q, sizeLine_eq]
  omega
theorem short_sh {xs : List D} (hl : (shP (.tup xs)).length ≤ 9000) : ∀ x ∈ xs, (shP x).length ≤ 9000 := fun x hx => by
  rw [sh_tup] at hl
  have := shPs_mem hx
  omega
theorem filter_all (ds : List D) : ds.filter (fun _ => true) = ds := List.filter_eq_self.mpr fun _ _ => rfl
theorem map_sh (xs : List D) : xs.map shD = (xs.map fun d => txt (shP d)).map D.str := by rw [List.map_map]; rfl
theorem shPs_sum : ∀ xs : List D, (xs.map fun d => (shP d).length).sum ≤ (shPs xs).length
  | [] => by simp
  | [x] => by unfold shPs; simp
  | x :: y :: r => by
    have ih := shPs_sum (y :: r)
    unfold shPs
    rw [List.map_cons, List.sum_cons, List.length_append, List.length_cons]
    omega
theorem plain_ok : ∀ (n : Nat) (d : D), Pl d → dep d < n → (shP d).length ≤ 9000 → okP (F_u_law_plain n [d]) (· = shD d) noXP
  | 0, d, _, h, _ => by omega
  | n + 1, d, hp, hd, hl => by
    unfold F_u_law_plain m_u_law_plain
    cases hp with
    | non =>
      walk_at "ev"
      rfl
    | bl b =>
      cases b <;> (walk_at "ev"; try rfl)
    | int h =>
      rename_i i
      walk_at "ev"
      have e := txt_eq (sh_int i)
      refine ⟨⟨log_ok h, z_le ?_⟩, congrArg D.str e⟩
      show (NT _).length ≤ _
      rw [e, txt_len]; exact Nat.le_trans hl (by decide)
    | str h =>
      rename_i s
      walk_at "ev"
      obtain ⟨a1, a2, a3⟩ := str_lim hl
      obtain ⟨b1, b2⟩ := str_end hl
      exact ⟨a1, a2, a3, b1, b2, congrArg D.str str_res⟩
    | tup h =>
      rename_i xs
      walk_at "ev"
      have hs := short_sh hl
      rw [sh_tup] at hl
      have hc := shPs_cnt xs
      unfold dep at hd
      refine lc_pure (fun _ => true) shD ?_
      walk_at "ev"
      rw [filter_all, map_sh]
      refine ⟨z_le (by omega), fun d hd2 => okP_by (plain_ok n d (h d hd2) (by have := deps_mem hd2; omega) (hs d hd2)) fun v e => by rw [e], ?_⟩
      walk_at "ev"
      have l1 : (Str.ofString " ").length = 1 := by rw [len_tl, tl_sp]; rfl
      have l2 : (Str.ofString "(").length = 1 := by rw [len_tl, tl_op]; rfl
      have l3 : (Str.ofString ")").length = 1 := by rw [len_tl, tl_cl]; rfl
      have lj : (Txt.join (Str.ofString " ") (xs.map fun d => txt (shP d))).length = (shPs xs).length := by rw [len_tl, join_sh]
      have sm := shPs_sum xs
      refine ⟨⟨?_, z_le (by omega)⟩, z_le (by omega), z_le (by rw [len_app]; omega), ?_⟩
      · rw [List.map_map, List.length_map, l1]
        have e : (List.map ((fun x => x.length) ∘ fun d => txt (shP d)) xs) = xs.map fun d => (shP d).length := List.map_congr_left fun d _ => txt_len _
        rw [e]
        omega
      · refine congrArg D.str (txt_eq ?_)
        rw [tl_append, tl_append, tl_op, tl_cl, join_sh]
        unfold shP
        rfl
end Mi.k18

namespace Mi.k18
open PySem PySem.Spec PyProof.Rows L2 Mi Mi.P TL
local macro_rules | `(tactic| walk_at "ev") => `(tactic| try simp only [repl_D, isi_nt, isi_ii', isi_si, isi_ti, isi_ss', isi_tstr, isi_ttu, isi_stu, is_it, is_st, is_tt', is_nb, wS_par3, wE_fmtZ, ok_fmtZ, int2_i, int2_b, okM_int2, okM_str, ok_oM, mtOk_sd, tB_s, okM_split, okM_part, okM_join, okM_join1, wE_joined, ok_joinD_nil, ok_joinD_cons, ok_fmt_i, ok_fmt_s, wE_fmt, wS_raise, wS_try, wS_par, wE_chain3, isi_is, isi_st, isi_it, isi_bt, isi_ibs, is_in, is_ib, is_sn, is_sb, is_tn, is_nn, is_bn, is_tt, is_ff, is_tf, is_ft, isn_tn, isn_nn, sl_s, ix_s, tuple_t, wS_seq, seqK_nx, seqK_rt, seqK_bk, seqK_ct, seqK_exc, loopK_nx, loopK_ct, loopK_bk, loopK_rt, loopK_exc, wE_yes, wS_nil, wS_ret, wS_retN, wS_expr, wS_if, wS_set, wS_brk, wS_cnt, wS_frz, wS_asg, wS_aug, wS_never, wS_for, wE_var, wE_c, wE_un, wE_bin, ok_ans, ok_o1, ok_o2, ok_ansT, okM_some, okM_none, okM_bind, okM_map, okM_ite, wE_tru, wE_mB, blW_bl, wE_andT, wE_orT, wE_notT, wE_and, wE_or, wE_not, wE_if, wE_chain, wE_nil, wE_cons, wE_fn, wE_tup, wE_lst, wE_new, ok_tup, ok_lst, ok_new, wE_sl, wE_noPart, wE_part, wE_mth, ok_append, ok_extend, wE_items, wE_rng1, wE_rng2, wE_zip, wE_callP, wE_callS, okP_runP, okR_runS, okR_ok, okR_exc, okR_bad, okP_ok, ok_gSet, ok_gSub, ok_gSeq, ok_gSeqL, ok_gAll_nil, ok_gAll_cons, vw_d, vw_l, okL_s, vws, pures, addD_i, addD_s, addD_l, addD_t, iaddD_i, subD_i, mulD_i, fdivD_i, modD_i, powD_i, negD_i, lt_i, le_i, gt_i, ge_i, eq_i, ne_i, eq_s, ne_s, eq_nl, ne_nl, truD_bl, truD_int, truD_lst, truD_tup, truD_str, truD_non, len_s, len_t, len_l, len_f, int_i, int_b, max2_i, min2_i, tuple_l, intOf_i, isi_ii, isi_bi, isi_tt, isi_ss, isi_ll, mtOk, cellOf, setItem, frzW, ix_t, ix_l, ix_f, sl_t, sl_l, atI_n, atI_0, atI_1, atI_2, atI_3, atI_4, atI_5, atI_6, atI_neg1, ixN_20, ixN_21, cutR, ent, forget, List.map_cons, List.map_nil, List.cons_append, List.nil_append, List.append_nil, List.length_cons, List.length_nil, List.replicate, List.getElem?_cons_zero, List.getElem?_cons_succ, List.getElem?_nil, List.set_cons_zero, List.set_cons_succ, List.set_nil, List.take_succ_cons, List.take_zero, List.take_nil, Option.bind_some, Option.bind_none, id, Nat.reduceAdd, Nat.reduceSub, Nat.reduceEqDiff, decide_eq_true_eq, decide_eq_false_iff_not, Bool.not_eq_true', Bool.not_eq_false', Bool.not_true, Bool.not_false, forall_eq', true_implies, false_implies, implies_true, and_true, true_and, and_self, reduceCtorEq, beq_self_eq_true, List.map_append, getLast?_of, List.isEmpty_nil, List.isEmpty_cons, Bool.false_eq_true, Bool.true_eq_false, forall_const, Nat.le_refl, eq_self, decide_true, decide_false, if_true, if_false, Int.not_lt, Int.not_le])
theorem same_ok : ∀ (n : Nat) (d : D), Sm n d → okP (F_u_law_same n [d, d]) (· = .bl true) noXP
  | 0, d, h => by cases h
  | n + 1, d, hp => by
    unfold F_u_law_same m_u_law_same
    cases hp with
    | non =>
      walk_at "ev"
      try rfl
    | bl b =>
      cases b <;> (walk_at "ev"; try rfl)
    | int h =>
      walk_at "ev"
      try rfl
    | str h =>
      walk_at "ev"
      try rfl
    | tup h hl =>
      rename_i xs
      walk_at "ev"
      refine ⟨⟨by omega, by omega⟩, for_inv (fun i w S => S = [] ∧ w = [some (.d (.tup xs)), some (.d (.tup xs)), none]) ⟨rfl, rfl⟩ (fun i d w S he hI => ?_) fun w S hI => ?_⟩
      · obtain ⟨e1, e2⟩ := hI
        subst e1 e2
        obtain ⟨hi, rfl⟩ := rangeD_get he
        have hi : i < xs.length := by omega
        have e0 : (0 : Int) + (i : Int) = (i : Int) := by omega
        rw [e0]
        walk_at "ev"
        rw [List.getElem?_eq_getElem hi]
        walk_at "ev"
        refine okP_by (same_ok n _ (h _ (List.getElem_mem hi))) fun v e => ?_
        subst e
        walk_at "ev"
      · obtain ⟨e1, e2⟩ := hI
        subst e1 e2
        walk_at "ev"
end Mi.k18

namespace Mi.k18
open PySem PySem.Spec PyProof.Rows L2 Mi Mi.P TL
local macro_rules | `(tactic| walk_at "ev") => `(tactic| try simp only [repl_D, isi_nt, isi_ii', isi_si, isi_ti, isi_ss', isi_tstr, isi_ttu, isi_stu, is_it, is_st, is_tt', is_nb, wS_par3, wE_fmtZ, ok_fmtZ, int2_i, int2_b, okM_int2, okM_str, ok_oM, mtOk_sd, tB_s, okM_split, okM_part, okM_join, okM_join1, wE_joined, ok_joinD_nil, ok_joinD_cons, ok_fmt_i, ok_fmt_s, wE_fmt, wS_raise, wS_try, wS_par, wE_chain3, isi_is, isi_st, isi_it, isi_bt, isi_ibs, is_in, is_ib, is_sn, is_sb, is_tn, is_nn, is_bn, is_tt, is_ff, is_tf, is_ft, isn_tn, isn_nn, sl_s, ix_s, tuple_t, wS_seq, seqK_nx, seqK_rt, seqK_bk, seqK_ct, seqK_exc, loopK_nx, loopK_ct, loopK_bk, loopK_rt, loopK_exc, wE_yes, wS_nil, wS_ret, wS_retN, wS_expr, wS_if, wS_set, wS_brk, wS_cnt, wS_frz, wS_asg, wS_aug, wS_never, wS_for, wE_var, wE_c, wE_un, wE_bin, ok_ans, ok_o1, ok_o2, ok_ansT, okM_some, okM_none, okM_bind, okM_map, okM_ite, wE_tru, wE_mB, blW_bl, wE_andT, wE_orT, wE_notT, wE_and, wE_or, wE_not, wE_if, wE_chain, wE_nil, wE_cons, wE_fn, wE_tup, wE_lst, wE_new, ok_tup, ok_lst, ok_new, wE_sl, wE_noPart, wE_part, wE_mth, ok_append, ok_extend, wE_items, wE_rng1, wE_rng2, wE_zip, wE_callP, wE_callS, okP_runP, okR_runS, okR_ok, okR_exc, okR_bad, okP_ok, ok_gSet, ok_gSub, ok_gSeq, ok_gSeqL, ok_gAll_nil, ok_gAll_cons, vw_d, vw_l, okL_s, vws, pures, addD_i, addD_s, addD_l, addD_t, iaddD_i, subD_i, mulD_i, fdivD_i, modD_i, powD_i, negD_i, lt_i, le_i, gt_i, ge_i, eq_i, ne_i, eq_s, ne_s, eq_nl, ne_nl, truD_bl, truD_int, truD_lst, truD_tup, truD_str, truD_non, len_s, len_t, len_l, len_f, int_i, int_b, max2_i, min2_i, tuple_l, intOf_i, isi_ii, isi_bi, isi_tt, isi_ss, isi_ll, mtOk, cellOf, setItem, frzW, ix_t, ix_l, ix_f, sl_t, sl_l, atI_n, atI_0, atI_1, atI_2, atI_3, atI_4, atI_5, atI_6, atI_neg1, ixN_20, ixN_21, cutR, ent, forget, List.map_cons, List.map_nil, List.cons_append, List.nil_append, List.append_nil, List.length_cons, List.length_nil, List.replicate, List.getElem?_cons_zero, List.getElem?_cons_succ, List.getElem?_nil, List.set_cons_zero, List.set_cons_succ, List.set_nil, List.take_succ_cons, List.take_zero, List.take_nil, Option.bind_some, Option.bind_none, id, Nat.reduceAdd, Nat.reduceSub, Nat.reduceEqDiff, decide_eq_true_eq, decide_eq_false_iff_not, Bool.not_eq_true', Bool.not_eq_false', Bool.not_true, Bool.not_false, forall_eq', true_implies, false_implies, implies_true, and_true, true_and, and_self, reduceCtorEq, beq_self_eq_true, List.map_append, getLast?_of, List.isEmpty_nil, List.isEmpty_cons, Bool.false_eq_true, Bool.true_eq_false, forall_const, Nat.le_refl, eq_self, decide_true, decide_false, if_true, if_false, Int.not_lt, Int.not_le])
theorem f3_D {a b : Str} {i : Int} : tFind3 (.str a) [.str b, .int i] = some (.int (Txt.find3 a b i)) := nrfl rfl
theorem f4_D {a b : Str} {i j : Int} : tFind4 (.str a) [.str b, .int i, .int j] = some (.int (Txt.findIn a b i j)) := nrfl rfl
theorem ls_D {a b : Str} : tS1 Txt.lstripChars (.str a) [.str b] = if (Txt.lstripChars a b).length ≤ sizeLine then some (.str (Txt.lstripChars a b)) else none := nrfl rfl
local macro_rules | `(tactic| walk_at "ev") => `(tactic| try simp only [f3_D, f4_D, ls_D, repl_D, isi_nt, isi_ii', isi_si, isi_ti, isi_ss', isi_tstr, isi_ttu, isi_stu, is_it, is_st, is_tt', is_nb, wS_par3, wE_fmtZ, ok_fmtZ, int2_i, int2_b, okM_int2, okM_str, ok_oM, mtOk_sd, tB_s, okM_split, okM_part, okM_join, okM_join1, wE_joined, ok_joinD_nil, ok_joinD_cons, ok_fmt_i, ok_fmt_s, wE_fmt, wS_raise, wS_try, wS_par, wE_chain3, isi_is, isi_st, isi_it, isi_bt, isi_ibs, is_in, is_ib, is_sn, is_sb, is_tn, is_nn, is_bn, is_tt, is_ff, is_tf, is_ft, isn_tn, isn_nn, sl_s, ix_s, tuple_t, wS_seq, seqK_nx, seqK_rt, seqK_bk, seqK_ct, seqK_exc, loopK_nx, loopK_ct, loopK_bk, loopK_rt, loopK_exc, wE_yes, wS_nil, wS_ret, wS_retN, wS_expr, wS_if, wS_set, wS_brk, wS_cnt, wS_frz, wS_asg, wS_aug, wS_never, wS_for, wE_var, wE_c, wE_un, wE_bin, ok_ans, ok_o1, ok_o2, ok_ansT, okM_some, okM_none, okM_bind, okM_map, okM_ite, wE_tru, wE_mB, blW_bl, wE_andT, wE_orT, wE_notT, wE_and, wE_or, wE_not, wE_if, wE_chain, wE_nil, wE_cons, wE_fn, wE_tup, wE_lst, wE_new, ok_tup, ok_lst, ok_new, wE_sl, wE_noPart, wE_part, wE_mth, ok_append, ok_extend, wE_items, wE_rng1, wE_rng2, wE_zip, wE_callP, wE_callS, okP_runP, okR_runS, okR_ok, okR_exc, okR_bad, okP_ok, ok_gSet, ok_gSub, ok_gSeq, ok_gSeqL, ok_gAll_nil, ok_gAll_cons, vw_d, vw_l, okL_s, vws, pures, addD_i, addD_s, addD_l, addD_t, iaddD_i, subD_i, mulD_i, fdivD_i, modD_i, powD_i, negD_i, lt_i, le_i, gt_i, ge_i, eq_i, ne_i, eq_s, ne_s, eq_nl, ne_nl, truD_bl, truD_int, truD_lst, truD_tup, truD_str, truD_non, len_s, len_t, len_l, len_f, int_i, int_b, max2_i, min2_i, tuple_l, intOf_i, isi_ii, isi_bi, isi_tt, isi_ss, isi_ll, mtOk, cellOf, setItem, frzW, ix_t, ix_l, ix_f, sl_t, sl_l, atI_n, atI_0, atI_1, atI_2, atI_3, atI_4, atI_5, atI_6, atI_neg1, ixN_20, ixN_21, cutR, ent, forget, List.map_cons, List.map_nil, List.cons_append, List.nil_append, List.append_nil, List.length_cons, List.length_nil, List.replicate, List.getElem?_cons_zero, List.getElem?_cons_succ, List.getElem?_nil, List.set_cons_zero, List.set_cons_succ, List.set_nil, List.take_succ_cons, List.take_zero, List.take_nil, Option.bind_some, Option.bind_none, id, Nat.reduceAdd, Nat.reduceSub, Nat.reduceEqDiff, decide_eq_true_eq, decide_eq_false_iff_not, Bool.not_eq_true', Bool.not_eq_false', Bool.not_true, Bool.not_false, forall_eq', true_implies, false_implies, implies_true, and_true, true_and, and_self, reduceCtorEq, beq_self_eq_true, List.map_append, getLast?_of, List.isEmpty_nil, List.isEmpty_cons, Bool.false_eq_true, Bool.true_eq_false, forall_const, Nat.le_refl, eq_self, decide_true, decide_false, if_true, if_false, Int.not_lt, Int.not_le])
theorem prn : ∀ c, c < 128 → Unicode.isPrintable c = (decide (32 ≤ c) && decide (c ≤ 126)) := by decide +kernel
theorem ascii_l (x : Str) : Txt.isascii x = (tl x).all fun k => decide (k < 128) := by
  unfold Txt.isascii
  rw [← Array.all_toList]
theorem print_l {x : Str} (h : ∀ k ∈ tl x, k < 128) : Txt.isprintable x = (tl x).all fun k => decide (32 ≤ k) && decide (k ≤ 126) := by
  unfold Txt.isprintable
  rw [← Array.all_toList]
  have : ∀ l : List Nat, (∀ k ∈ l, k < 128) → l.all Unicode.isPrintable = l.all fun k => decide (32 ≤ k) && decide (k ≤ 126) := fun l => by
    induction l with
    | nil => intro _; rfl
    | cons a r ih =>
      intro hl
      rw [List.all_cons, List.all_cons, prn a (hl a (by simp)), ih fun c hc => hl c (by simp [hc])]
  exact this _ h
def u8i (k : Nat) : Int := ((UInt8.ofNat k).toNat : Int)
theorem u8i_eq {a : Nat} (h : a < 128) : u8i a = (a : Int) := by
  unfold u8i
  rw [UInt8.toNat_ofNat']
  have : a % 2 ^ 8 = a := Nat.mod_eq_of_lt (by omega)
  omega
theorem in37 {x : Str} (h : ∀ k ∈ tl x, k < 128) : intInB 37 (encA x) = decide (37 ∈ tl x) := by
  unfold intInB encA
  rw [Array.toList_map, List.map_map]
  have : ∀ l : List Nat, (∀ k ∈ l, k < 128) → (l.map u8i).contains 37 = decide (37 ∈ l) := fun l => by
    induction l with
    | nil => intro _; rfl
    | cons a r ih =>
      intro hl
      rw [List.map_cons, u8i_eq (hl a (by simp)), List.contains_cons, ih fun c hc => hl c (by simp [hc]), Bool.eq_iff_iff]
      simp only [Bool.or_eq_true, beq_iff_eq, decide_eq_true_eq, List.mem_cons]
      rw [show (37 : Int) = (a : Int) ↔ 37 = a by omega]
  exact this _ h
theorem is_clean_ok (x : Str) (hl : x.length ≤ 9000) : okP (F_is_clean [.str x]) (· = .bl (clB (tl x))) noXP := by
  unfold F_is_clean m_is_clean
  walk_at "ev"
  rw [ascii_l]
  refine ⟨fun h1 => ?_, fun h1 => ?_⟩
  · have ha : ∀ k ∈ tl x, k < 128 := fun k hk => of_decide_eq_true (List.all_eq_true.mp h1 k hk)
    rw [print_l ha]
    refine ⟨fun h2 => ?_, fun h2 => ?_⟩
    · have e1 : encT (.str x) [] = some (.byt (encA x)) := by
        unfold encT
        exact if_pos ⟨h1, by omega⟩
      rw [e1]
      have e2 : notInB (.int 37) (.byt (encA x)) = some (.bl (!decide (37 ∈ tl x))) := by
        show (if (0 : Int) ≤ 37 ∧ (37 : Int) < 256 then some (D.bl !intInB 37 (encA x)) else none) = _
        rw [if_pos (by omega), in37 ha]
      walk_at "ev"
      rw [e2]
      walk_at "ev"
      congr 1
      unfold clB cl1
      rw [Bool.eq_iff_iff]
      simp only [Bool.not_eq_true', decide_eq_false_iff_not, List.all_eq_true, Bool.and_eq_true, decide_eq_true_eq] at h2 ⊢
      exact ⟨fun z k hk => ⟨h2 k hk, fun e => z (e ▸ hk)⟩, fun z hk => (z 37 hk).2 rfl⟩
    · rw [h2]
      congr 1
      symm
      unfold clB cl1
      rw [Bool.eq_false_iff] at h2 ⊢
      intro z
      refine h2 (List.all_eq_true.mpr fun k hk => ?_)
      have := List.all_eq_true.mp z k hk
      rw [Bool.and_eq_true] at this
      exact this.1
  · rw [h1]
    congr 1
    symm
    unfold clB cl1
    rw [Bool.eq_false_iff] at h1 ⊢
    intro z
    refine h1 (List.all_eq_true.mpr fun k hk => ?_)
    have := List.all_eq_true.mp z k hk
    simp only [Bool.and_eq_true, decide_eq_true_eq] at this ⊢
    omega

def bp (q : Nat) : Ex := ⟨"BadPlain", ["place"], [.int q]⟩
theorem fx_do {q : Nat} {P : List Str × List D → Prop} (h : q ≤ 99999) (hp : P ((["place"] : List Str), [D.int q])) : okM (fx_BadPlain [.int q]) P := by
  have h1 : wE (mFmt (mVar 1)) [none, some (.d (.int (q : Nat)))] [] (fun _ _ => True) noX := by
    walk_at "ev"
    exact NT_fit (by omega) (by omega)
  unfold wE at h1
  unfold fx_BadPlain fld1
  cases e : mFmt (mVar 1) [none, some (W.d (D.int (q : Nat)))] [] with
  | ok a S =>
    show okM (match mFmt (mVar 1) [none, some (W.d (D.int (q : Nat)))] [] with
      | R.ok _ _ => some ((["place"] : List Str), [D.int q])
      | _ => none) P
    rw [e]
    exact hp
  | exc a S => rw [e] at h1; exact h1.elim
  | bad => rw [e] at h1; exact h1.elim
/-- the length of what stands ahead of the first quote -/
def seg (l : List Nat) : List Nat := l.takeWhile fun k => decide (k ≠ 34)
theorem seg_34 (l : List Nat) : 34 ∉ seg l := fun h => by
  unfold seg at h
  induction l with
  | nil => cases h
  | cons a r ih =>
    rw [List.takeWhile_cons] at h
    split at h
    · rename_i c
      rcases List.mem_cons.mp h with z | z
      · exact of_decide_eq_true c z.symm
      · exact ih z
    · cases h
theorem seg_split (l : List Nat) : ∃ b, l = seg l ++ b ∧ (b = [] ∨ ∃ r, b = 34 :: r) := by
  induction l with
  | nil => exact ⟨[], rfl, .inl rfl⟩
  | cons a r ih =>
    by_cases c : a = 34
    · subst c; exact ⟨34 :: r, rfl, .inr ⟨r, rfl⟩⟩
    · obtain ⟨b, e, h⟩ := ih
      have : seg (a :: r) = a :: seg r := by unfold seg; rw [List.takeWhile_cons, if_pos (decide_eq_true c)]
      exact ⟨b, by rw [this, List.cons_append, ← e], h⟩
theorem quote_ok (x : Str) (p : Nat) (hp : p ≤ x.length) : okP (F_u_quote [.str x, .int (p : Nat)]) (· = .int ((p + (seg ((tl x).drop p)).length : Nat) : Int)) noXP := by
  unfold F_u_quote m_u_quote
  walk_at "ev"
  obtain ⟨b, eb, hb⟩ := seg_split ((tl x).drop p)
  have hx : tl x = (tl x).take p ++ (seg ((tl x).drop p) ++ b) := by rw [← eb, List.take_append_drop]
  have lt : ((tl x).take p).length = p := by rw [List.length_take, ← len_tl]; omega
  rcases hb with hb | ⟨r, hb⟩
  · subst hb
    rw [List.append_nil] at hx eb
    have ll : x.length = p + (seg ((tl x).drop p)).length := by
      have := congrArg List.length hx
      rw [List.length_append, lt, ← len_tl] at this
      exact this
    have no : 34 ∉ (tl x).drop p := by rw [eb]; exact seg_34 _
    have fd : Txt.find3 x "\"" (p : Nat) = -1 := by
      rw [one_eq tl_q]
      rcases StrLaws.find3_spec x 34 (p : Int) with ⟨h, _⟩ | ⟨k, e, h1, h2, h3, h4⟩
      · exact h
      · rw [fromN hp] at h1
        have g := StrLaws.getElem?_of_getD h2 h3
        have g : (tl x)[k]? = some 34 := g
        refine absurd (List.mem_of_getElem? (i := k - p) (a := 34) ?_) no
        rw [List.getElem?_drop, show p + (k - p) = k by omega]
        exact g
    rw [fd]
    exact ⟨fun _ => by rw [ll], fun z => absurd z (by decide)⟩
  · subst hb
    have fd := find3_at (x := x) (c := 34) (pre := (tl x).take p) (r := seg ((tl x).drop p)) (post := r) tl_q hx (seg_34 _)
    rw [lt] at fd
    rw [fd]
    exact ⟨fun z => absurd z (by omega), fun _ => rfl⟩
theorem clB_take (l : List Nat) {i : Nat} (h : i < l.length) : clB (l.take (i + 1)) = (clB (l.take i) && cl1 l[i]) := by
  rw [List.take_add_one, List.getElem?_eq_getElem h]
  unfold clB
  rw [List.all_append]
  simp
/-- what the look tells of the signs of a part -/
theorem look_ok (x : Str) (p : Nat) (v post : List Nat) (hl : x.length ≤ 9000) (hx : (tl x).drop p = v ++ post) (hp : p ≤ x.length) :
    okP (F_u_look [.str x, .int (p : Nat), .int ((p + v.length : Nat) : Int)]) (fun d => d = .non ∧ clB v = true) (fun e => ∃ a b r, v = a ++ b :: r ∧ clB a = true ∧ cl1 b = false ∧ e = bp (p + a.length)) := by
  unfold F_u_look m_u_look
  walk_at "ev"
  have hx2 : tl x = (tl x).take p ++ (v ++ post) := by rw [← hx, List.take_append_drop]
  have lt : ((tl x).take p).length = p := by rw [List.length_take, ← len_tl]; omega
  have ll : x.length = p + (v.length + post.length) := by
    have := congrArg List.length hx2
    rw [List.length_append, lt, List.length_append, ← len_tl] at this
    exact this
  have e : tl (cutS x (some ((p : Nat) : Int)) (some ((p + v.length : Nat) : Int))) = v := cut_app hx2 lt.symm (by rw [lt])
  refine okP_by (is_clean_ok _ (by rw [len_tl, e]; omega)) fun d ev => ?_
  subst ev
  rw [e]
  walk_at "ev"
  refine ⟨fun h => ?_, fun h => ⟨by omega, ?_⟩⟩
  · try exact h
  have er : (((p + v.length : Nat) : Int) - (p : Nat)).toNat = v.length := by omega
  rw [er]
  refine for_inv (fun i w S => S = [] ∧ clB (v.take i) = true ∧ w = [some (.d (.str x)), some (.d (.int (p : Nat))), some (.d (.int ((p + v.length : Nat) : Int))), none]) ⟨rfl, by simp [clB], rfl⟩ (fun i d w S he hI => ?_) fun w S hI => ?_
  · obtain ⟨e1, hc, e2⟩ := hI
    subst e1 e2
    obtain ⟨hi, rfl⟩ := rangeD_get he
    have ei : ((p : Nat) : Int) + (i : Int) = ((p + i : Nat) : Int) := by omega
    rw [ei]
    walk_at "ev"
    have g : x.cps.toList[p + i]? = some v[i] := by
      show (tl x)[p + i]? = _
      rw [hx2, List.getElem?_append_right (by omega), lt, Nat.add_sub_cancel_left, List.getElem?_append_left hi, List.getElem?_eq_getElem hi]
    simp only [atI_n, g, Option.map_some]
    walk_at "ev"
    refine okP_by (is_clean_ok (chr1 v[i]) (by rw [len_tl]; exact Nat.le_trans (Nat.le_of_eq rfl) (by decide : 1 ≤ 9000))) fun d ev => ?_
    subst ev
    have e1 : clB (tl (chr1 v[i])) = cl1 v[i] := by
      show clB [v[i]] = _
      simp [clB]
    rw [e1]
    walk_at "ev"
    refine ⟨fun h => ?_, fun h => ?_⟩
    · refine ⟨by decide, fx_do (by omega) ?_⟩
      refine ⟨v.take i, v[i], v.drop (i + 1), ?_, hc, ?_, ?_⟩
      · rw [← List.drop_eq_getElem_cons hi, List.take_append_drop]
      · try exact h
      · rw [List.length_take, Nat.min_eq_left (by omega)]; rfl
    · rw [clB_take _ hi, hc]
      try exact h
      try simpa using h
  · obtain ⟨e1, hc, e2⟩ := hI
    subst e1 e2
    rw [rangeD_len, List.take_length] at hc
    rw [hc] at h
    try exact absurd h (by decide)
    try cases h
end Mi.k18

namespace Mi.k18
open PySem PySem.Spec PyProof.Rows L2 Mi Mi.P TL
local macro_rules | `(tactic| walk_at "ev") => `(tactic| try simp only [f3_D, f4_D, ls_D, repl_D, isi_nt, isi_ii', isi_si, isi_ti, isi_ss', isi_tstr, isi_ttu, isi_stu, is_it, is_st, is_tt', is_nb, wS_par3, wE_fmtZ, ok_fmtZ, int2_i, int2_b, okM_int2, okM_str, ok_oM, mtOk_sd, tB_s, okM_split, okM_part, okM_join, okM_join1, wE_joined, ok_joinD_nil, ok_joinD_cons, ok_fmt_i, ok_fmt_s, wE_fmt, wS_raise, wS_try, wS_par, wE_chain3, isi_is, isi_st, isi_it, isi_bt, isi_ibs, is_in, is_ib, is_sn, is_sb, is_tn, is_nn, is_bn, is_tt, is_ff, is_tf, is_ft, isn_tn, isn_nn, sl_s, ix_s, tuple_t, wS_seq, seqK_nx, seqK_rt, seqK_bk, seqK_ct, seqK_exc, loopK_nx, loopK_ct, loopK_bk, loopK_rt, loopK_exc, wE_yes, wS_nil, wS_ret, wS_retN, wS_expr, wS_if, wS_set, wS_brk, wS_cnt, wS_frz, wS_asg, wS_aug, wS_never, wS_for, wE_var, wE_c, wE_un, wE_bin, ok_ans, ok_o1, ok_o2, ok_ansT, okM_some, okM_none, okM_bind, okM_map, okM_ite, wE_tru, wE_mB, blW_bl, wE_andT, wE_orT, wE_notT, wE_and, wE_or, wE_not, wE_if, wE_chain, wE_nil, wE_cons, wE_fn, wE_tup, wE_lst, wE_new, ok_tup, ok_lst, ok_new, wE_sl, wE_noPart, wE_part, wE_mth, ok_append, ok_extend, wE_items, wE_rng1, wE_rng2, wE_zip, wE_callP, wE_callS, okP_runP, okR_runS, okR_ok, okR_exc, okR_bad, okP_ok, ok_gSet, ok_gSub, ok_gSeq, ok_gSeqL, ok_gAll_nil, ok_gAll_cons, vw_d, vw_l, okL_s, vws, pures, addD_i, addD_s, addD_l, addD_t, iaddD_i, subD_i, mulD_i, fdivD_i, modD_i, powD_i, negD_i, lt_i, le_i, gt_i, ge_i, eq_i, ne_i, eq_s, ne_s, eq_nl, ne_nl, truD_bl, truD_int, truD_lst, truD_tup, truD_str, truD_non, len_s, len_t, len_l, len_f, int_i, int_b, max2_i, min2_i, tuple_l, intOf_i, isi_ii, isi_bi, isi_tt, isi_ss, isi_ll, mtOk, cellOf, setItem, frzW, ix_t, ix_l, ix_f, sl_t, sl_l, atI_n, atI_0, atI_1, atI_2, atI_3, atI_4, atI_5, atI_6, atI_neg1, ixN_20, ixN_21, cutR, ent, forget, List.map_cons, List.map_nil, List.cons_append, List.nil_append, List.append_nil, List.length_cons, List.length_nil, List.replicate, List.getElem?_cons_zero, List.getElem?_cons_succ, List.getElem?_nil, List.set_cons_zero, List.set_cons_succ, List.set_nil, List.take_succ_cons, List.take_zero, List.take_nil, Option.bind_some, Option.bind_none, id, Nat.reduceAdd, Nat.reduceSub, Nat.reduceEqDiff, decide_eq_true_eq, decide_eq_false_iff_not, Bool.not_eq_true', Bool.not_eq_false', Bool.not_true, Bool.not_false, forall_eq', true_implies, false_implies, implies_true, and_true, true_and, and_self, reduceCtorEq, beq_self_eq_true, List.map_append, getLast?_of, List.isEmpty_nil, List.isEmpty_cons, Bool.false_eq_true, Bool.true_eq_false, forall_const, Nat.le_refl, eq_self, decide_true, decide_false, if_true, if_false, Int.not_lt, Int.not_le])
theorem z3 : 3 ≤ sizeLine := by rw [sizeLine_eq]; decide
theorem joinL_nil : ∀ ps : List (List Nat), joinL [] ps = ps.flatten
  | [] => rfl
  | [p] => by simp [joinL]
  | p :: q :: r => by
    have ih := joinL_nil (q :: r)
    show p ++ ([] ++ joinL [] (q :: r)) = _
    rw [ih]
    simp
theorem join_flat {ys : List Str} {L : List Nat} (h : (ys.map tl).flatten = L) : Txt.join "" ys = txt L ∧ (ys.map fun y => y.length).sum = L.length := by
  refine ⟨txt_eq ?_, ?_⟩
  · rw [join_eq, tl_join, tl_e, joinL_nil, h]
  · rw [← h, List.length_flatten, List.map_map]
    congr 1
def QP (r : Res) : D → Prop := fun d => ∃ v e, r = .inr (v, e) ∧ d = .tup [v, .int (e : Nat)]
def XPl (r : Res) : Ex → Prop := fun x => ∃ q, r = .inl q ∧ x = bp q
theorem split92 : ∀ v : List Nat, 92 ∈ v → ∃ a r, v = a ++ 92 :: r ∧ 92 ∉ a
  | c :: w, h => by
    by_cases z : c = 92
    · subst z; exact ⟨[], w, rfl, by simp⟩
    · obtain ⟨a, r, e, ha⟩ := split92 w ((List.mem_cons.mp h).resolve_left fun q => z q.symm)
      refine ⟨c :: a, r, by rw [e]; rfl, fun q => ?_⟩
      rcases List.mem_cons.mp q with y | y
      · exact z y.symm
      · exact ha y
/-- the slash, if there is one ahead of the end -/
theorem slash_at (x : Str) (p : Nat) (v post : List Nat) (hx : (tl x).drop p = v ++ post) (hp : p ≤ x.length) :
    (Txt.findIn x "\\" (p : Int) ((p + v.length : Nat) : Int) = -1 ∧ 92 ∉ v) ∨ ∃ a r, v = a ++ 92 :: r ∧ 92 ∉ a ∧ Txt.findIn x "\\" (p : Int) ((p + v.length : Nat) : Int) = ((p + a.length : Nat) : Int) := by
  have hx2 : tl x = (tl x).take p ++ (v ++ post) := by rw [← hx, List.take_append_drop]
  have lt : ((tl x).take p).length = p := by rw [List.length_take, ← len_tl]; omega
  have ll : x.length = p + (v.length + post.length) := by
    have := congrArg List.length hx2
    rw [List.length_append, lt, List.length_append, ← len_tl] at this
    exact this
  by_cases h : 92 ∈ v
  · right
    obtain ⟨a, r, ev, ha⟩ := split92 v h
    refine ⟨a, r, ev, ha, ?_⟩
    have := find4_at (x := x) (c := 92) (pre := (tl x).take p) (r := a) (post := r ++ post) (j := p + v.length) tl_bs (by
      have e3 := hx2
      rw [ev] at e3
      simpa using e3) ha (by rw [lt, ev]; simp) (by omega)
    rw [lt] at this
    exact this
  · left
    have := find4_no (x := x) (c := 92) (pre := (tl x).take p) (r := v) (post := post) (j := p + v.length) tl_bs hx2 h (by rw [lt])
    rw [lt] at this
    exact ⟨this, h⟩
theorem in3y {c : Nat} (h : c = 92 ∨ c = 34 ∨ c = 110) : cmpNotIn (.str (txt [c])) (.tup [.str "\\", .str "\"", .str "n"]) = some (.bl false) := by
  rcases h with z | z | z <;> subst z <;> rfl
theorem sne {c d : Nat} {y : Str} (hy : tl y = [d]) (h : c ≠ d) : (txt [c] == y) = false := by
  rw [Bool.eq_false_iff]
  intro z
  have := congrArg tl (beq_iff_eq.mp z)
  rw [hy, tl_txt] at this
  exact h (List.cons.inj this).1
theorem tl_n : tl (Str.ofString "n") = [110] := by decide +kernel
theorem in3_gen {a : Str} (h1 : (a == ("\\" : Str)) = false) (h2 : (a == ("\"" : Str)) = false) (h3 : (a == ("n" : Str)) = false) : cmpNotIn (.str a) (.tup [.str "\\", .str "\"", .str "n"]) = some (.bl true) := by
  have g1 : (("\\" : Str) == a) = false := by rw [Bool.eq_false_iff] at h1 ⊢; exact fun z => h1 (beq_iff_eq.mpr (beq_iff_eq.mp z).symm)
  have g2 : (("\"" : Str) == a) = false := by rw [Bool.eq_false_iff] at h2 ⊢; exact fun z => h2 (beq_iff_eq.mpr (beq_iff_eq.mp z).symm)
  have g3 : (("n" : Str) == a) = false := by rw [Bool.eq_false_iff] at h3 ⊢; exact fun z => h3 (beq_iff_eq.mpr (beq_iff_eq.mp z).symm)
  unfold cmpNotIn
  simp [inD, eqOk, eqD, h1, h2, h3, g1, g2, g3]
theorem in3n {c : Nat} (h : ¬ (c = 92 ∨ c = 34 ∨ c = 110)) : cmpNotIn (.str (txt [c])) (.tup [.str "\\", .str "\"", .str "n"]) = some (.bl true) :=
  in3_gen (sne tl_bs (by omega)) (sne tl_q (by omega)) (sne tl_n (by omega))
theorem in3e : cmpNotIn (.str (txt [])) (.tup [.str "\\", .str "\"", .str "n"]) = some (.bl true) := by
  have ne : ∀ (y : Str) (d : Nat), tl y = [d] → (txt [] == y) = false := fun y d hy => by
    rw [Bool.eq_false_iff]
    intro z
    have := congrArg tl (beq_iff_eq.mp z)
    rw [hy, tl_txt] at this
    cases this
  exact in3_gen (ne _ _ tl_bs) (ne _ _ tl_q) (ne _ _ tl_n)
theorem quoted_ok (x : Str) (hlx : x.length ≤ 4500) (p0 : Nat) (hp0 : p0 ≤ x.length) :
    okP (F_u_quoted [.str x, .int (p0 : Nat)]) (QP (rT ((tl x).drop p0) p0 [])) (XPl (rT ((tl x).drop p0) p0 [])) := by
  generalize hR : rT ((tl x).drop p0) p0 [] = R
  unfold F_u_quoted m_u_quoted
  walk_at "ev"
  refine ⟨Nat.zero_le _, okP_by (quote_ok x p0 hp0) fun v e => ?_⟩
  subst e
  skip
  walk_at "ev"
  refine while_inv (fun n w S => ∃ (p : Nat) (u : List Nat) (ps : List Str), n = x.length - p ∧ p ≤ x.length ∧ rT ((tl x).drop p) p u = R ∧ (ps.map tl).flatten = u ∧ ps.length ≤ 2 * p ∧ u.length ≤ p ∧ S = [.lst (ps.map .str)] ∧
      w = [some (.d (.str x)), some (.d (.int (p : Nat))), some (.l 0), some (.d (.int ((p + (seg ((tl x).drop p)).length : Nat) : Int))), some (.d (.int (Txt.findIn x "\\" ((p : Nat) : Int) ((p + (seg ((tl x).drop p)).length : Nat) : Int)))), none]) _
    ⟨p0, [], [], rfl, hp0, hR, rfl, by simp, by simp, rfl, rfl⟩ fun n w S hI => ?_
  obtain ⟨p, u, ps, hn, hp, hr, hps, hpl, hul, e1, e2⟩ := hI
  subst e1 e2
  obtain ⟨post, hd, hpost⟩ := seg_split ((tl x).drop p)
  have h34 := seg_34 ((tl x).drop p)
  generalize hv : seg ((tl x).drop p) = v at *
  have ll : x.length = p + (v.length + post.length) := by
    have := congrArg List.length hd
    rw [List.length_drop, List.length_append, ← len_tl] at this
    omega
  walk_at "ev"
  rcases slash_at x p v post hd hp with ⟨fe, no⟩ | ⟨a, r, ev, na, fe⟩
  · rw [fe]
    refine ⟨fun z => absurd z (by decide), fun _ => ?_⟩
    walk_at "ev"
    refine okP_mono (look_ok x p v post (by omega) hd hp) (fun d hd2 => ?_) fun e he => ?_
    · obtain ⟨ed, hc⟩ := hd2
      rw [hd, rT_seg h34 no hc] at hr
      rcases hpost with hpost | ⟨r, hpost⟩
      · subst hpost
        rw [rT_nil] at hr
        simp only [List.length_nil] at ll
        refine ⟨fun _ => ?_, fun z => absurd (by omega : ((p + v.length : Nat) : Int) = (x.length : Int)) z⟩
        refine ⟨by decide, fx_do (by omega) ?_⟩
        exact ⟨_, hr.symm, rfl⟩
      · subst hpost
        rw [rT_q] at hr
        rw [List.length_cons] at ll
        refine ⟨fun z => absurd z (by omega), fun _ => ?_⟩
        have hx2 : tl x = (tl x).take p ++ (v ++ 34 :: r) := by rw [← hd, List.take_append_drop]
        have lt : ((tl x).take p).length = p := by rw [List.length_take, ← len_tl]; omega
        have ec : tl (cutS x (some ((p : Nat) : Int)) (some ((p + v.length : Nat) : Int))) = v := cut_app hx2 lt.symm (by rw [lt])
        generalize cutS x (some ((p : Nat) : Int)) (some ((p + v.length : Nat) : Int)) = cv at *
        have em : ps.map D.str ++ [D.str cv] = (ps ++ [cv]).map D.str := by rw [List.map_append]; rfl
        rw [em]
        have fl : ((ps ++ [cv]).map tl).flatten = u ++ v := by
          rw [List.map_append, List.flatten_append, hps, List.map_cons, List.map_nil, ec]
          simp
        obtain ⟨j1, j2⟩ := join_flat fl
        have lys : (ps ++ [cv]).length = ps.length + 1 := by rw [List.length_append]; rfl
        clear fl em
        generalize ps ++ [cv] = ys at *
        refine ⟨z_lt (by rw [List.length_map]; omega), ?_⟩
        walk_at "ev"
        have l0 : (Str.ofString "").length = 0 := by rw [len_tl, tl_e]; rfl
        rw [j1, l0]
        refine ⟨⟨?_, z_le (by rw [txt_len, List.length_append]; omega)⟩, z2, _, _, hr.symm, rfl⟩
        have j2 : (List.map (fun x => x.length) ys).sum = (u ++ v).length := j2
        rw [j2, List.length_append]; omega
    · obtain ⟨a, b, r, ev, ha, hb, ee⟩ := he
      rw [hd] at hr
      rw [ev] at hr h34 no
      rw [rT_bad h34 no ha hb] at hr
      exact ⟨_, hr.symm, ee⟩
  · rw [fe]
    have h34a : 34 ∉ a := fun z => h34 (by rw [ev]; simp [z])
    have hd3 : (tl x).drop p = a ++ (92 :: (r ++ post)) := by rw [hd, ev]; simp
    have lv : v.length = a.length + (r.length + 1) := by rw [ev]; simp
    refine ⟨fun _ => ?_, fun z => absurd z (by omega)⟩
    refine okP_mono (look_ok x p a (92 :: (r ++ post)) (by omega) hd3 hp) (fun d hd2 => ?_) fun e he => ?_
    · obtain ⟨ed, hc⟩ := hd2
      rw [hd3, rT_seg h34a na hc] at hr
      have i1 : ((p + a.length : Nat) : Int) + 1 = ((p + a.length + 1 : Nat) : Int) := rfl
      have i2 : ((p + a.length : Nat) : Int) + 2 = ((p + a.length + 2 : Nat) : Int) := rfl
      simp only [i1, i2]
      have hx2 : tl x = (tl x).take p ++ (a ++ 92 :: (r ++ post)) := by rw [← hd3, List.take_append_drop]
      have lt : ((tl x).take p).length = p := by rw [List.length_take, ← len_tl]; omega
      have ecv : tl (cutS x (some ((p : Nat) : Int)) (some ((p + a.length : Nat) : Int))) = a := cut_app hx2 lt.symm (by rw [lt])
      have dr : (tl x).drop (p + a.length + 1) = r ++ post := by
        rw [Nat.add_assoc, ← List.drop_drop, hd3, ← List.drop_drop, List.drop_left]
        rfl
      have ec1 : cutS x (some ((p + a.length + 1 : Nat) : Int)) (some ((p + a.length + 2 : Nat) : Int)) = txt ((r ++ post).take 1) := txt_eq (by
        rw [cut_ij _ _ _ (by omega), dr, show p + a.length + 2 - (p + a.length + 1) = 1 by omega])
      rw [ec1]
      cases hq : r ++ post with
      | nil =>
        rw [hq, rT_s0] at hr
        rw [List.take_nil, in3e]
        refine ⟨z3, fun _ => ?_, fun z => absurd z (by decide)⟩
        refine ⟨by decide, fx_do (by omega) ?_⟩
        exact ⟨_, hr.symm, rfl⟩
      | cons c rest =>
        rw [hq] at hr dr
        rw [List.take_succ_cons, List.take_zero]
        by_cases hc3 : c = 92 ∨ c = 34 ∨ c = 110
        · rw [rT_s1 hc3] at hr
          rw [in3y hc3]
          refine ⟨z3, fun z => absurd z (by decide), fun _ => ?_⟩
          have lrest : x.length = p + a.length + 2 + rest.length := by
            have := congrArg List.length dr
            rw [List.length_drop, List.length_cons, ← len_tl] at this
            have : (r ++ post).length = rest.length + 1 := by rw [hq]; rfl
            rw [List.length_append] at this
            omega
          have dr2 : (tl x).drop (p + a.length + 2) = rest := by
            have := congrArg (List.drop 1) dr
            rw [List.drop_drop] at this
            exact this
          generalize cutS x (some ((p : Nat) : Int)) (some ((p + a.length : Nat) : Int)) = cv at *
          refine ⟨z_lt (by rw [List.length_map]; omega), fun h => ?_, fun h => ?_⟩
          · have hc10 : c = 110 := by
              refine Classical.byContradiction fun z => ?_
              rw [sne tl_n z] at h
              cases h
            have hy : tl (Str.ofString "\n") = [if c = 110 then 10 else c] := by rw [if_pos hc10]; exact tl_nl
            clear h
            generalize Str.ofString "\n" = y at *
            refine ⟨z_lt (by rw [List.length_append, List.length_map]; simp; omega), ?_⟩
            refine okP_by (quote_ok x (p + a.length + 2) (by omega)) fun v' e => ?_
            subst e
            skip
            walk_at "ev"
            refine ⟨_, ?_, p + a.length + 2, u ++ a ++ [if c = 110 then 10 else c], ps ++ [cv, y], rfl, by omega, by rw [dr2]; exact hr, ?_, ?_, ?_, ?_, rfl⟩
            · omega
            · rw [List.map_append, List.flatten_append, hps]; simp [ecv, hy]
            · rw [List.length_append]; simp; omega
            · simp; omega
            · simp
          · have hc10 : c ≠ 110 := fun z => by
              subst z
              rw [show txt [110] = Str.ofString "n" from (txt_eq tl_n).symm, beq_self_eq_true] at h
              cases h
            have hy : tl (txt [c]) = [if c = 110 then 10 else c] := by rw [if_neg hc10]; rfl
            clear h
            generalize txt [c] = y at *
            refine ⟨z_lt (by rw [List.length_append, List.length_map]; simp; omega), ?_⟩
            refine okP_by (quote_ok x (p + a.length + 2) (by omega)) fun v' e => ?_
            subst e
            skip
            walk_at "ev"
            refine ⟨_, ?_, p + a.length + 2, u ++ a ++ [if c = 110 then 10 else c], ps ++ [cv, y], rfl, by omega, by rw [dr2]; exact hr, ?_, ?_, ?_, ?_, rfl⟩
            · omega
            · rw [List.map_append, List.flatten_append, hps]; simp [ecv, hy]
            · rw [List.length_append]; simp; omega
            · simp; omega
            · simp
        · rw [rT_s2 hc3] at hr
          rw [in3n hc3]
          refine ⟨z3, fun _ => ?_, fun z => absurd z (by decide)⟩
          refine ⟨by decide, fx_do (by omega) ?_⟩
          exact ⟨_, hr.symm, rfl⟩
    · obtain ⟨a1, b, r1, ev1, ha, hb, ee⟩ := he
      rw [hd3] at hr
      subst ev1
      rw [rT_bad h34a na ha hb] at hr
      exact ⟨_, hr.symm, ee⟩
end Mi.k18

namespace Mi.k18
open PySem PySem.Spec PyProof.Rows L2 Mi Mi.P TL
local macro_rules | `(tactic| walk_at "ev") => `(tactic| try simp only [f3_D, f4_D, ls_D, repl_D, isi_nt, isi_ii', isi_si, isi_ti, isi_ss', isi_tstr, isi_ttu, isi_stu, is_it, is_st, is_tt', is_nb, wS_par3, wE_fmtZ, ok_fmtZ, int2_i, int2_b, okM_int2, okM_str, ok_oM, mtOk_sd, tB_s, okM_split, okM_part, okM_join, okM_join1, wE_joined, ok_joinD_nil, ok_joinD_cons, ok_fmt_i, ok_fmt_s, wE_fmt, wS_raise, wS_try, wS_par, wE_chain3, isi_is, isi_st, isi_it, isi_bt, isi_ibs, is_in, is_ib, is_sn, is_sb, is_tn, is_nn, is_bn, is_tt, is_ff, is_tf, is_ft, isn_tn, isn_nn, sl_s, ix_s, tuple_t, wS_seq, seqK_nx, seqK_rt, seqK_bk, seqK_ct, seqK_exc, loopK_nx, loopK_ct, loopK_bk, loopK_rt, loopK_exc, wE_yes, wS_nil, wS_ret, wS_retN, wS_expr, wS_if, wS_set, wS_brk, wS_cnt, wS_frz, wS_asg, wS_aug, wS_never, wS_for, wE_var, wE_c, wE_un, wE_bin, ok_ans, ok_o1, ok_o2, ok_ansT, okM_some, okM_none, okM_bind, okM_map, okM_ite, wE_tru, wE_mB, blW_bl, wE_andT, wE_orT, wE_notT, wE_and, wE_or, wE_not, wE_if, wE_chain, wE_nil, wE_cons, wE_fn, wE_tup, wE_lst, wE_new, ok_tup, ok_lst, ok_new, wE_sl, wE_noPart, wE_part, wE_mth, ok_append, ok_extend, wE_items, wE_rng1, wE_rng2, wE_zip, wE_callP, wE_callS, okP_runP, okR_runS, okR_ok, okR_exc, okR_bad, okP_ok, ok_gSet, ok_gSub, ok_gSeq, ok_gSeqL, ok_gAll_nil, ok_gAll_cons, vw_d, vw_l, okL_s, vws, pures, addD_i, addD_s, addD_l, addD_t, iaddD_i, subD_i, mulD_i, fdivD_i, modD_i, powD_i, negD_i, lt_i, le_i, gt_i, ge_i, eq_i, ne_i, eq_s, ne_s, eq_nl, ne_nl, truD_bl, truD_int, truD_lst, truD_tup, truD_str, truD_non, len_s, len_t, len_l, len_f, int_i, int_b, max2_i, min2_i, tuple_l, intOf_i, isi_ii, isi_bi, isi_tt, isi_ss, isi_ll, mtOk, cellOf, setItem, frzW, ix_t, ix_l, ix_f, sl_t, sl_l, atI_n, atI_0, atI_1, atI_2, atI_3, atI_4, atI_5, atI_6, atI_neg1, ixN_20, ixN_21, cutR, ent, forget, List.map_cons, List.map_nil, List.cons_append, List.nil_append, List.append_nil, List.length_cons, List.length_nil, List.replicate, List.getElem?_cons_zero, List.getElem?_cons_succ, List.getElem?_nil, List.set_cons_zero, List.set_cons_succ, List.set_nil, List.take_succ_cons, List.take_zero, List.take_nil, Option.bind_some, Option.bind_none, id, Nat.reduceAdd, Nat.reduceSub, Nat.reduceEqDiff, decide_eq_true_eq, decide_eq_false_iff_not, Bool.not_eq_true', Bool.not_eq_false', Bool.not_true, Bool.not_false, forall_eq', true_implies, false_implies, implies_true, and_true, true_and, and_self, reduceCtorEq, beq_self_eq_true, List.map_append, getLast?_of, List.isEmpty_nil, List.isEmpty_cons, Bool.false_eq_true, Bool.true_eq_false, forall_const, Nat.le_refl, eq_self, decide_true, decide_false, if_true, if_false, Int.not_lt, Int.not_le])
theorem tl_figs : tl ("0123456789" : Str) = [48, 49, 50, 51, 52, 53, 54, 55, 56, 57] := by decide +kernel
theorem fig_in (k : Nat) : ("0123456789" : Str).cps.contains k = (decide (48 ≤ k) && decide (k ≤ 57)) := by
  have e : ("0123456789" : Str).cps.contains k = (tl ("0123456789" : Str)).contains k := by
    show _ = ("0123456789" : Str).cps.toList.contains k
    rw [Array.contains_toList]
  rw [e, tl_figs, Bool.eq_iff_iff]
  simp only [List.contains_cons, List.contains_nil, Bool.or_false, Bool.or_eq_true, beq_iff_eq, Bool.and_eq_true, decide_eq_true_eq]
  omega
theorem chr_is (c d : Nat) (y : Str) (hy : tl y = [d]) : (chr1 c == y) = decide (c = d) := by
  rw [Bool.eq_iff_iff, beq_iff_eq, decide_eq_true_eq]
  constructor
  · intro z
    have := congrArg tl z
    rw [hy] at this
    have z2 : [c] = [d] := this
    exact (List.cons.inj z2).1
  · intro z
    subst z
    exact ext_tl hy.symm

theorem fig_dg (k : Nat) : ("0123456789" : Str).cps.contains k = dgB k := by rw [fig_in]; rfl
theorem tw_take (q : Nat → Bool) : ∀ (k : Nat) (l : List Nat), ((l.take k).takeWhile q).length = min k (l.takeWhile q).length
  | 0, l => by simp
  | k + 1, [] => by simp
  | k + 1, a :: r => by
    rw [List.take_succ_cons, List.takeWhile_cons, List.takeWhile_cons]
    split
    · rw [List.length_cons, List.length_cons, tw_take q k r]; omega
    · simp
theorem tw_all (q : Nat → Bool) (l : List Nat) : ∀ c ∈ l.takeWhile q, q c = true := fun c h => by
  induction l with
  | nil => cases h
  | cons a r ih =>
    rw [List.takeWhile_cons] at h
    split at h
    · rename_i z
      rcases List.mem_cons.mp h with e | e
      · rw [e]; exact z
      · exact ih e
    · cases h
theorem tw_split (q : Nat → Bool) (l : List Nat) : ∃ b, l = l.takeWhile q ++ b ∧ (∀ c, b.head? = some c → q c = false) := by
  induction l with
  | nil => exact ⟨[], rfl, fun c h => by cases h⟩
  | cons a r ih =>
    rw [List.takeWhile_cons]
    split
    · obtain ⟨b, e, h⟩ := ih
      exact ⟨b, by rw [List.cons_append, ← e], h⟩
    · rename_i z
      exact ⟨a :: r, rfl, fun c h => by cases h; simpa using z⟩
theorem dg_iff {k : Nat} : dgB k = true ↔ 48 ≤ k ∧ k ≤ 57 := by unfold dgB; simp
theorem int_at {x : Str} {p n : Nat} (hp : p < x.length) (hn : n = (dsN (tl x) p).length) (h1 : 1 ≤ n) (h20 : n ≤ 20) :
    intText? (cutS x (some ((p : Nat) : Int)) (some ((stPl (tl x) p + n : Nat) : Int))) = some (vNum (tl x) p) ∧ (cutS x (some ((p : Nat) : Int)) (some ((stPl (tl x) p + n : Nat) : Int))).length ≤ 640 := by
  obtain ⟨b, eb, _⟩ := tw_split dgB ((tl x).drop (stPl (tl x) p))
  have eb : (tl x).drop (stPl (tl x) p) = dsN (tl x) p ++ b := eb
  have hall : ∀ c ∈ dsN (tl x) p, 48 ≤ c ∧ c ≤ 57 := fun c hc => dg_iff.mp (tw_all dgB _ c hc)
  have ne : dsN (tl x) p ≠ [] := fun z => by rw [z] at hn; simp at hn; omega
  have g : (tl x).drop p = (tl x)[p]'(by rw [← len_tl]; exact hp) :: (tl x).drop (p + 1) := List.drop_eq_getElem_cons (by rw [← len_tl]; exact hp)
  have gp : (tl x)[p]? = some ((tl x)[p]'(by rw [← len_tl]; exact hp)) := List.getElem?_eq_getElem _
  have ecut : tl (cutS x (some ((p : Nat) : Int)) (some ((stPl (tl x) p + n : Nat) : Int))) = (if (tl x)[p]? = some 45 then [45] else []) ++ dsN (tl x) p := by
    rw [cut_ij _ _ _ (by omega)]
    by_cases c : (tl x)[p]? = some 45
    · have es : stPl (tl x) p = p + 1 := by unfold stPl; rw [if_pos c]
      rw [if_pos c, es, show p + 1 + n - p = n + 1 by omega, g, List.take_succ_cons]
      rw [es] at eb
      rw [eb, hn, List.take_left]
      rw [gp] at c
      rw [Option.some.inj c]
      rfl
    · have es : stPl (tl x) p = p := by unfold stPl; rw [if_neg c]
      rw [if_neg c, es, Nat.add_sub_cancel_left]
      rw [es] at eb
      rw [eb, hn, List.take_left]
      rfl
  have lc : (cutS x (some ((p : Nat) : Int)) (some ((stPl (tl x) p + n : Nat) : Int))).length ≤ 640 := by
    rw [len_tl, ecut, List.length_append, ← hn]
    split <;> simp <;> omega
  refine ⟨?_, lc⟩
  generalize cutS x (some ((p : Nat) : Int)) (some ((stPl (tl x) p + n : Nat) : Int)) = y at *
  unfold vNum
  by_cases c : (tl x)[p]? = some 45
  · rw [if_pos c] at ecut ⊢
    exact intText_neg (x := y) (cs := dsN (tl x) p) ecut hall ne (by omega)
  · rw [if_neg c, List.nil_append] at ecut
    rw [if_neg c]
    have ec2 : y.cps.toList = dsN (tl x) p := ecut
    rw [intText_digits (x := y) (by rw [ec2]; exact hall) (by rw [ec2]; exact ne) (by omega), ec2]
theorem stPl_01 (l : List Nat) (p : Nat) : stPl l p = p ∨ stPl l p = p + 1 := by unfold stPl; split <;> simp
theorem ls_D2 {a b : Str} : tS1 Txt.lstripChars (.str a) [.str b] = if (Txt.lstripChars a b).length ≤ sizeLine then some (.str (Txt.lstripChars a b)) else none := nrfl rfl
theorem chr_is' {y : Str} {c d : Nat} (hy : tl y = [d]) : (chr1 c == y) = decide (c = d) := chr_is c d y hy
/-- the program's whole number -/
theorem integer_ok (x : Str) (hlx : x.length ≤ 4500) (p : Nat) (hp : p < x.length) :
    okP (F_u_integer [.str x, .int (p : Nat)]) (QP (rNum (tl x) p)) (XPl (rNum (tl x) p)) := by
  unfold F_u_integer m_u_integer
  have hpl : p < (tl x).length := by rw [← len_tl]; exact hp
  have gp : x.cps.toList[p]? = some ((tl x)[p]'hpl) := List.getElem?_eq_getElem _
  simp only [okP_runP]
  refine ⟨rfl, ?_⟩
  refine wS_cut (fun w S => S = [] ∧ w = [some (.d (.str x)), some (.d (.int (p : Nat))), some (.d (.int ((stPl (tl x) p : Nat) : Int))), none, none]) ?_ ?_
  · walk_at "ev"
    simp only [atI_n, gp, Option.map_some]
    walk_at "ev"
    simp only [chr_is _ 45 _ tl_dash]
    walk_at "ev"
    have gp' : (tl x)[p]? = some ((tl x)[p]'hpl) := gp
    refine ⟨fun z => ⟨_, _, rfl, rfl, ?_⟩, fun z => ⟨_, _, rfl, rfl, ?_⟩⟩
    · unfold stPl; rw [if_pos (by rw [gp', z])]; rfl
    · unfold stPl; rw [if_neg (by rw [gp']; exact fun q => z (Option.some.inj q))]
  rintro w S ⟨e1, e2⟩
  subst e1 e2
  have s01 := stPl_01 (tl x) p
  have tk : (((tl x).drop (stPl (tl x) p)).take 21).takeWhile dgB = (dsN (tl x) p).take 21 := by
    unfold dsN
    generalize (tl x).drop (stPl (tl x) p) = l
    generalize hk : 21 = k
    clear hk
    induction l generalizing k with
    | nil => simp
    | cons a r ih =>
      cases k with
      | zero => simp
      | succ k =>
        rw [List.take_succ_cons, List.takeWhile_cons, List.takeWhile_cons]
        split
        · rw [List.take_succ_cons, ih]
        · simp
  have dsl : (dsN (tl x) p).length ≤ x.length - stPl (tl x) p := by
    have := takeWhile_le dgB ((tl x).drop (stPl (tl x) p))
    rw [List.length_drop, ← len_tl] at this
    exact this
  refine wS_cut (fun w S => ∃ ah : Str, tl ah = ((tl x).drop (stPl (tl x) p)).take 21 ∧ S = [] ∧ w = [some (.d (.str x)), some (.d (.int (p : Nat))), some (.d (.int ((stPl (tl x) p : Nat) : Int))), some (.d (.str ah)), none]) ?_ ?_
  · walk_at "ev"
    have i1 : ((stPl (tl x) p : Nat) : Int) + 20 + 1 = ((stPl (tl x) p + 21 : Nat) : Int) := by omega
    rw [i1]
    refine ⟨_, _, rfl, _, ?_, rfl, rfl⟩
    rw [cut_ij _ _ _ (by omega), Nat.add_sub_cancel_left]
  rintro w S ⟨ah, hah, e1, e2⟩
  subst e1 e2
  have tw : ((tl ah).takeWhile ("0123456789" : Str).cps.contains) = (dsN (tl x) p).take 21 := by
    rw [hah, ← tk]
    congr 1
    funext k
    exact fig_dg k
  have lah : ah.length ≤ 21 := by rw [len_tl, hah, List.length_take]; omega
  refine wS_cut (fun w S => S = [] ∧ w = [some (.d (.str x)), some (.d (.int (p : Nat))), some (.d (.int ((stPl (tl x) p : Nat) : Int))), some (.d (.str ah)), some (.d (.int ((min 21 (dsN (tl x) p).length : Nat) : Int)))]) ?_ ?_
  · walk_at "ev"
    have ls := lstrip_len ah "0123456789"
    rw [tw, List.length_take] at ls
    have twl : min 21 (dsN (tl x) p).length ≤ ah.length := by
      have := takeWhile_le ("0123456789" : Str).cps.contains (tl ah)
      rw [tw, List.length_take, ← len_tl] at this
      exact this
    rw [ls]
    refine ⟨z_le (by omega), _, _, rfl, rfl, ?_⟩
    have : ((ah.length : Nat) : Int) - ((ah.length - min 21 (dsN (tl x) p).length : Nat) : Int) = ((min 21 (dsN (tl x) p).length : Nat) : Int) := by omega
    rw [this]
  rintro w S ⟨e1, e2⟩
  subst e1 e2
  have hR : rNum (tl x) p = rNum (tl x) p := rfl
  conv at hR => lhs; unfold rNum
  generalize rNum (tl x) p = R at hR ⊢
  generalize hst : stPl (tl x) p = st at *
  generalize hds : dsN (tl x) p = ds at *
  by_cases c0 : ds = []
  · subst c0
    walk_at "ev"
    simp only [List.length_nil, Nat.min_zero] at *
    refine ⟨fun _ => ?_, fun z => absurd rfl z⟩
    refine ⟨by decide, fx_do (by omega) ?_⟩
    exact ⟨_, by rw [← hR]; rfl, rfl⟩
  · have d1 : 1 ≤ ds.length := List.length_pos_iff.mpr c0
    obtain ⟨a, ha⟩ : ∃ a, ds.head? = some a := by
      cases e : ds with
      | nil => exact absurd e c0
      | cons a r => exact ⟨a, rfl⟩
    have g0 : ah.cps.toList[0]? = some a := by
      show (tl ah)[0]? = _
      have e1 : (tl ah)[0]? = ((tl ah).takeWhile ("0123456789" : Str).cps.contains)[0]? := by
        have nz : 0 < ((tl ah).takeWhile ("0123456789" : Str).cps.contains).length := by rw [tw, List.length_take]; omega
        obtain ⟨b, eb, _⟩ := tw_split ("0123456789" : Str).cps.contains (tl ah)
        have := congrArg (fun l => l[0]?) eb
        rw [show (tl ah)[0]? = _ from this, List.getElem?_append_left nz]
      rw [e1, tw, List.getElem?_take, if_pos (by decide), ← List.head?_eq_getElem?, ha]
    rw [if_neg c0, ha] at hR
    walk_at "ev"
    simp only [atI_0, g0, Option.map_some]
    walk_at "ev"
    simp only [chr_is _ 48 _ tl_zero]
    walk_at "ev"
    refine ⟨fun z => absurd z (by omega), fun _ => ?_⟩
    have hc : ∀ (c : Prop), (∃ q, R = .inl q ∧ c) → True := fun _ _ => trivial
    by_cases c48 : a = 48
    · subst c48
      by_cases cst : p < st
      · rw [if_pos ⟨rfl, cst⟩] at hR
        refine ⟨fun _ => ⟨fun _ => ?_, fun z => absurd z (by omega)⟩, fun z => absurd rfl z⟩
        refine ⟨by decide, fx_do (by omega) ?_⟩
        exact ⟨_, hR.symm, rfl⟩
      · rw [if_neg fun z => cst z.2] at hR
        refine ⟨fun _ => ⟨fun z => absurd z (by omega), fun _ => ⟨fun _ => ⟨fun z => ?_, fun z => ?_⟩, fun z => absurd rfl z⟩⟩, fun z => absurd rfl z⟩
        · rw [if_pos ⟨rfl, by omega⟩] at hR
          have i1 : ((st : Nat) : Int) + 1 = ((st + 1 : Nat) : Int) := rfl
          rw [i1]
          refine ⟨by decide, fx_do (by omega) ?_⟩
          exact ⟨_, hR.symm, rfl⟩
        · rw [if_neg fun q => by omega, if_neg (by omega)] at hR
          refine ⟨fun z => absurd z (by omega), fun _ => ?_⟩
          have em : min 21 ds.length = ds.length := by omega
          have i2 : ((st : Nat) : Int) + ((min 21 ds.length : Nat) : Int) = ((stPl (tl x) p + ds.length : Nat) : Int) := by omega
          obtain ⟨ei, el⟩ := int_at (x := x) (p := p) (n := ds.length) hp (by rw [hds]) d1 (by omega)
          rw [i2, ei]
          walk_at "ev"
          exact ⟨el, z2, _, _, hR.symm, by rw [hst]⟩
    · rw [if_neg fun z => c48 (Option.some.inj z.1), if_neg fun z => c48 (Option.some.inj z.1)] at hR
      refine ⟨fun z => absurd z c48, fun _ => ⟨fun z => absurd z c48, fun _ => ⟨fun z => ?_, fun z => ?_⟩⟩⟩
      · rw [if_pos (by omega)] at hR
        have i1 : ((st : Nat) : Int) + 20 = ((st + 20 : Nat) : Int) := rfl
        rw [i1]
        refine ⟨by decide, fx_do (by omega) ?_⟩
        exact ⟨_, hR.symm, rfl⟩
      · rw [if_neg (by omega)] at hR
        have em : min 21 ds.length = ds.length := by omega
        have i2 : ((st : Nat) : Int) + ((min 21 ds.length : Nat) : Int) = ((stPl (tl x) p + ds.length : Nat) : Int) := by omega
        obtain ⟨ei, el⟩ := int_at (x := x) (p := p) (n := ds.length) hp (by rw [hds]) d1 (by omega)
        rw [i2, ei]
        walk_at "ev"
        exact ⟨el, z2, _, _, hR.symm, by rw [hst]⟩
end Mi.k18

namespace Mi.k18
open PySem PySem.Spec PyProof.Rows L2 Mi Mi.P TL
local macro_rules | `(tactic| walk_at "ev") => `(tactic| try simp only [f3_D, f4_D, ls_D, repl_D, isi_nt, isi_ii', isi_si, isi_ti, isi_ss', isi_tstr, isi_ttu, isi_stu, is_it, is_st, is_tt', is_nb, wS_par3, wE_fmtZ, ok_fmtZ, int2_i, int2_b, okM_int2, okM_str, ok_oM, mtOk_sd, tB_s, okM_split, okM_part, okM_join, okM_join1, wE_joined, ok_joinD_nil, ok_joinD_cons, ok_fmt_i, ok_fmt_s, wE_fmt, wS_raise, wS_try, wS_par, wE_chain3, isi_is, isi_st, isi_it, isi_bt, isi_ibs, is_in, is_ib, is_sn, is_sb, is_tn, is_nn, is_bn, is_tt, is_ff, is_tf, is_ft, isn_tn, isn_nn, sl_s, ix_s, tuple_t, wS_seq, seqK_nx, seqK_rt, seqK_bk, seqK_ct, seqK_exc, loopK_nx, loopK_ct, loopK_bk, loopK_rt, loopK_exc, wE_yes, wS_nil, wS_ret, wS_retN, wS_expr, wS_if, wS_set, wS_brk, wS_cnt, wS_frz, wS_asg, wS_aug, wS_never, wS_for, wE_var, wE_c, wE_un, wE_bin, ok_ans, ok_o1, ok_o2, ok_ansT, okM_some, okM_none, okM_bind, okM_map, okM_ite, wE_tru, wE_mB, blW_bl, wE_andT, wE_orT, wE_notT, wE_and, wE_or, wE_not, wE_if, wE_chain, wE_nil, wE_cons, wE_fn, wE_tup, wE_lst, wE_new, ok_tup, ok_lst, ok_new, wE_sl, wE_noPart, wE_part, wE_mth, ok_append, ok_extend, wE_items, wE_rng1, wE_rng2, wE_zip, wE_callP, wE_callS, okP_runP, okR_runS, okR_ok, okR_exc, okR_bad, okP_ok, ok_gSet, ok_gSub, ok_gSeq, ok_gSeqL, ok_gAll_nil, ok_gAll_cons, vw_d, vw_l, okL_s, vws, pures, addD_i, addD_s, addD_l, addD_t, iaddD_i, subD_i, mulD_i, fdivD_i, modD_i, powD_i, negD_i, lt_i, le_i, gt_i, ge_i, eq_i, ne_i, eq_s, ne_s, eq_nl, ne_nl, truD_bl, truD_int, truD_lst, truD_tup, truD_str, truD_non, len_s, len_t, len_l, len_f, int_i, int_b, max2_i, min2_i, tuple_l, intOf_i, isi_ii, isi_bi, isi_tt, isi_ss, isi_ll, mtOk, cellOf, setItem, frzW, ix_t, ix_l, ix_f, sl_t, sl_l, atI_n, atI_0, atI_1, atI_2, atI_3, atI_4, atI_5, atI_6, atI_neg1, ixN_20, ixN_21, cutR, ent, forget, List.map_cons, List.map_nil, List.cons_append, List.nil_append, List.append_nil, List.length_cons, List.length_nil, List.replicate, List.getElem?_cons_zero, List.getElem?_cons_succ, List.getElem?_nil, List.set_cons_zero, List.set_cons_succ, List.set_nil, List.take_succ_cons, List.take_zero, List.take_nil, Option.bind_some, Option.bind_none, id, Nat.reduceAdd, Nat.reduceSub, Nat.reduceEqDiff, decide_eq_true_eq, decide_eq_false_iff_not, Bool.not_eq_true', Bool.not_eq_false', Bool.not_true, Bool.not_false, forall_eq', true_implies, false_implies, implies_true, and_true, true_and, and_self, reduceCtorEq, beq_self_eq_true, List.map_append, getLast?_of, List.isEmpty_nil, List.isEmpty_cons, Bool.false_eq_true, Bool.true_eq_false, forall_const, Nat.le_refl, eq_self, decide_true, decide_false, if_true, if_false, Int.not_lt, Int.not_le])
def encL : Res → D
  | .inl q => .lst [.int (q : Nat), .int (-1)]
  | .inr (d, e) => .lst [d, .int (e : Nat)]
/-- the law's own reading: as the program's, but a zero ahead of a figure is read -/
def LQ (l : List Nat) (r : Res) : D → Prop := fun d => d = encL r ∨ ∃ q c, r = .inl q ∧ d = .lst [.int 0, .int (q : Nat)] ∧ l[q]? = some c ∧ dgB c = true
theorem found1 (c : Nat) (y : Str) : inStr (chr1 c) y = decide (c ∈ tl y) := by
  unfold inStr
  show (!(Builtin.Str.occurrences y ⟨#[c]⟩ 0 _ 1).isEmpty) = _
  rw [PySem.StrLaws.found_one]
theorem in_s (c : Nat) (y : Str) : cmpIn (.str (chr1 c)) (.str y) = some (.bl (decide (c ∈ tl y))) := by
  rw [← found1]; rfl
theorem notin_s (c : Nat) (y : Str) : cmpNotIn (.str (chr1 c)) (.str y) = some (.bl (!decide (c ∈ tl y))) := by
  rw [← found1]; rfl
theorem mem_figs (c : Nat) : decide (c ∈ tl ("0123456789" : Str)) = dgB c := by
  rw [tl_figs, Bool.eq_iff_iff]
  unfold dgB
  simp only [List.mem_cons, List.not_mem_nil, or_false, decide_eq_true_eq, Bool.and_eq_true]
  omega
theorem in_fig (c : Nat) : cmpIn (.str (chr1 c)) (.str "0123456789") = some (.bl (dgB c)) := by rw [in_s, mem_figs]
theorem notin_fig (c : Nat) : cmpNotIn (.str (chr1 c)) (.str "0123456789") = some (.bl (!dgB c)) := by rw [notin_s, mem_figs]
theorem digits_at_ok (x : Str) (hlx : x.length ≤ 4500) (p : Nat) (hp : p < x.length) :
    okP (F_u_law_digits_at [.str x, .int (p : Nat)]) (LQ (tl x) (rNum (tl x) p)) noXP := by
  unfold F_u_law_digits_at m_u_law_digits_at
  have hpl : p < (tl x).length := by rw [← len_tl]; exact hp
  have gp : x.cps.toList[p]? = some ((tl x)[p]'hpl) := List.getElem?_eq_getElem _
  have lx : (tl x).length = x.length := (len_tl x).symm
  simp only [okP_runP]
  refine ⟨rfl, ?_⟩
  refine wS_cut (fun w S => S = [] ∧ w = [some (.d (.str x)), some (.d (.int (p : Nat))), some (.d (.int ((stPl (tl x) p : Nat) : Int))), none, none]) ?_ ?_
  · walk_at "ev"
    simp only [atI_n, gp, Option.map_some]
    walk_at "ev"
    simp only [chr_is _ 45 _ tl_dash]
    walk_at "ev"
    have gp' : (tl x)[p]? = some ((tl x)[p]'hpl) := gp
    refine ⟨_, _, rfl, rfl, ?_⟩
    by_cases z : (tl x)[p]'hpl = 45
    · have es : stPl (tl x) p = p + 1 := by unfold stPl; rw [if_pos (by rw [gp', z])]
      rw [es, if_pos z]
      rfl
    · have es : stPl (tl x) p = p := by unfold stPl; rw [if_neg (by rw [gp']; exact fun q => z (Option.some.inj q))]
      rw [es, if_neg z, Int.add_zero]
  rintro w S ⟨e1, e2⟩
  subst e1 e2
  have s01 := stPl_01 (tl x) p
  obtain ⟨b, eb, hb⟩ := tw_split dgB ((tl x).drop (stPl (tl x) p))
  have eb : (tl x).drop (stPl (tl x) p) = dsN (tl x) p ++ b := eb
  have hall : ∀ c ∈ dsN (tl x) p, dgB c = true := fun c hc => tw_all dgB _ c hc
  have hR : rNum (tl x) p = rNum (tl x) p := rfl
  conv at hR => lhs; unfold rNum
  generalize rNum (tl x) p = R at hR ⊢
  have at_ : ∀ j, (tl x)[stPl (tl x) p + j]? = (dsN (tl x) p ++ b)[j]? := fun j => by rw [← eb, List.getElem?_drop]
  have iat : ∀ h1 : 1 ≤ (dsN (tl x) p).length, ∀ h20 : (dsN (tl x) p).length ≤ 20, _ := fun h1 h20 => int_at (x := x) (p := p) hp rfl h1 h20
  generalize hvN : vNum (tl x) p = v at *
  generalize hst : stPl (tl x) p = st at *
  generalize hds : dsN (tl x) p = ds at *
  have ll : st + (ds.length + b.length) = x.length := by
    have := congrArg List.length eb
    rw [List.length_drop, List.length_append, lx] at this
    omega
  walk_at "ev"
  refine ⟨fun z => ?_, fun z => ?_⟩
  · have d0 : ds = [] := List.length_eq_zero_iff.mp (by omega)
    rw [if_pos d0] at hR
    refine ⟨z2, .inl ?_⟩
    rw [← hR]
    have : (x.length : Int) = (st : Nat) := by omega
    rw [this]
    rfl
  have hlt : st < x.length := by omega
  obtain ⟨c, gc⟩ : ∃ c, (tl x)[st]? = some c := ⟨_, List.getElem?_eq_getElem (by omega)⟩
  have gc' : x.cps.toList[st]? = some c := gc
  simp only [atI_n, gc', Option.map_some, notin_fig]
  walk_at "ev"
  have at0 := at_ 0
  rw [Nat.add_zero, gc] at at0
  refine ⟨fun z => ?_, fun z => ?_⟩
  · have d0 : ds = [] := by
      cases hd : ds with
      | nil => rfl
      | cons a r =>
        rw [hd] at at0
        have := hall c (by rw [hd, Option.some.inj at0]; simp)
        rw [this] at z
        cases z
    rw [if_pos d0] at hR
    refine ⟨z2, .inl ?_⟩
    rw [← hR]
    rfl
  have cd : dgB c = true := by first | exact z | simpa using z
  have dne : ds ≠ [] := fun q => by
    rw [q, List.nil_append] at at0
    have := hb c (by rw [List.head?_eq_getElem?]; exact at0.symm)
    rw [cd] at this
    cases this
  have d1 : 1 ≤ ds.length := List.length_pos_iff.mpr dne
  have hhd : ds.head? = some c := by
    rw [List.head?_eq_getElem?, at0, List.getElem?_append_left (by omega)]
  rw [if_neg dne, hhd] at hR
  simp only [chr_is _ 48 _ tl_zero]
  walk_at "ev"
  refine ⟨fun z => ⟨fun z2' => ?_, fun z2' => ?_⟩, fun z => ?_⟩
  · rw [if_pos ⟨by rw [z], by omega⟩] at hR
    refine ⟨z2, .inl ?_⟩
    rw [← hR]
    rfl
  · have i1 : ((st : Nat) : Int) + 1 = ((st + 1 : Nat) : Int) := rfl
    refine ⟨z2, ?_⟩
    rw [i1]
    rw [if_neg fun q => by omega] at hR
    by_cases c1 : 1 < ds.length
    · rw [if_pos ⟨by rw [z], c1⟩] at hR
      have g1 := at_ 1
      rw [List.getElem?_append_left c1, List.getElem?_eq_getElem c1] at g1
      exact .inr ⟨_, _, hR.symm, rfl, g1, hall _ (List.getElem_mem c1)⟩
    · rw [if_neg fun q => c1 q.2, if_neg (by omega)] at hR
      refine .inl ?_
      rw [← hR]
      have dl : ds.length = 1 := by omega
      have de : ds = [48] := by
        cases hd : ds with
        | nil => exact absurd hd dne
        | cons a r =>
          rw [hd] at hhd dl
          cases r with
          | nil => rw [Option.some.inj hhd, z]
          | cons _ _ => simp at dl
      have v0 : v = 0 := by
        rw [← hvN]
        unfold vNum
        rw [hds, de]
        have : NumText.digitsVal [48] = 0 := by decide +kernel
        rw [this]
        split <;> rfl
      rw [v0, dl]
      rfl
  · rw [if_neg fun q => z (Option.some.inj q.1), if_neg fun q => z (Option.some.inj q.1)] at hR
    refine ⟨⟨by omega, by omega⟩, for_inv (fun i w S => min i ds.length ≤ 20 ∧ S = [] ∧ w = [some (.d (.str x)), some (.d (.int (p : Nat))), some (.d (.int ((st : Nat) : Int))), some (.d (.int ((st + min i ds.length : Nat) : Int))), none]) ⟨by simp, rfl, by simp⟩ (fun i d w S he hI => ?_) fun w S hI => ?_⟩
    · obtain ⟨h20, e1, e2⟩ := hI
      subst e1 e2
      obtain ⟨hi, rfl⟩ := rangeD_get he
      walk_at "ev"
      by_cases ci : i < ds.length
      · have mi : min i ds.length = i := by omega
        have mi2 : min (i + 1) ds.length = i + 1 := by omega
        rw [mi] at h20 ⊢
        rw [mi2]
        have g := at_ i
        rw [List.getElem?_append_left ci, List.getElem?_eq_getElem ci] at g
        have g' : x.cps.toList[st + i]? = some ds[i] := g
        refine ⟨fun _ => ?_, fun q => absurd q (by omega)⟩
        simp only [atI_n, g', Option.map_some, in_fig, hall _ (List.getElem_mem ci)]
        walk_at "ev"
        have i1 : ((st + i : Nat) : Int) + 1 = ((st + (i + 1) : Nat) : Int) := by omega
        refine ⟨fun _ => ⟨fun q => ?_, fun q => ⟨by omega, by rw [i1]⟩⟩, fun q => absurd (hall _ (List.getElem_mem ci)) (by rw [q]; decide)⟩
        · have : i = 20 := by omega
          subst this
          rw [if_pos (by omega)] at hR
          refine ⟨z2, .inl ?_⟩
          rw [← hR]
          rfl
      · have mi : min i ds.length = ds.length := by omega
        have mi2 : min (i + 1) ds.length = ds.length := by omega
        rw [mi] at h20 ⊢
        rw [mi2]
        refine ⟨fun q => ?_, fun _ => ⟨h20, rfl⟩⟩
        have hbl : 0 < b.length := by omega
        have g := at_ ds.length
        rw [List.getElem?_append_right (Nat.le_refl _), Nat.sub_self, List.getElem?_eq_getElem hbl] at g
        have g' : x.cps.toList[st + ds.length]? = some b[0] := g
        have nb := hb b[0] (by rw [List.head?_eq_getElem?, List.getElem?_eq_getElem hbl])
        simp only [atI_n, g', Option.map_some, in_fig]
        walk_at "ev"
        exact ⟨fun q => absurd nb (by rw [q]; decide), fun _ => h20⟩
    · obtain ⟨h20, e1, e2⟩ := hI
      subst e1 e2
      rw [rangeD_len] at h20 ⊢
      have mi : min x.length ds.length = ds.length := by omega
      have mi' : min (Int.toNat (x.length : Nat)) ds.length = ds.length := by
        rw [show Int.toNat ((x.length : Nat) : Int) = x.length from rfl]; exact mi
      rw [mi'] at h20 ⊢
      walk_at "ev"
      rw [if_neg (by omega)] at hR
      obtain ⟨ei, el⟩ := iat d1 h20
      rw [ei]
      walk_at "ev"
      refine ⟨el, z2, .inl ?_⟩
      rw [← hR]
      rfl
theorem lt1 {x y : Str} {c d : Nat} (hx : tl x = [c]) (hy : tl y = [d]) : strLt x y = decide (c < d) := by
  unfold strLt
  have e1 : x.cps.toList = [c] := hx
  have e2 : y.cps.toList = [d] := hy
  rw [e1, e2]
  congr 1
  rw [List.cons_lt_cons_iff]
  simp
theorem lt_s {x y : Str} : cmpLt (.str x) (.str y) = some (.bl (strLt x y)) := nrfl rfl
theorem gt_s {x y : Str} : cmpGt (.str x) (.str y) = some (.bl (strLt y x)) := nrfl rfl
theorem ord_s (c : Nat) : ordF [.str (chr1 c)] = some (.int (c : Nat)) := by
  show (if (chr1 c).length = 1 then some (D.int ((chr1 c).cps.getD 0 0 : Nat)) else none) = _
  rw [if_pos (show (chr1 c).length = 1 from rfl)]
  rfl
theorem get_n (e : Nat) : dgetD ([("n", .str "\n")] : List (Str × D)) (.str (chr1 e)) (.str (chr1 e)) = some (.str (txt [if e = 110 then 10 else e])) := by
  show some ((lastK _ _).getD _) = _
  have : lastK ([("n", .str "\n")] : List (Str × D)) (chr1 e) = if e = 110 then some (.str "\n") else none := by
    show List.lookup (chr1 e) [(("n" : Str), D.str "\n")] = _
    rw [List.lookup_cons, chr_is e 110 _ tl_n]
    by_cases c : e = 110
    · rw [decide_eq_true c, if_pos c]
    · rw [decide_eq_false c, if_neg c]; rfl
  rw [this]
  by_cases c : e = 110
  · rw [if_pos c, if_pos c]
    exact congrArg (fun s => some (D.str s)) (txt_eq tl_nl)
  · rw [if_neg c, if_neg c]
    rfl
theorem mem_esc (c : Nat) : decide (c ∈ tl ("\\\"n" : Str)) = decide (c = 92 ∨ c = 34 ∨ c = 110) := by
  have : tl ("\\\"n" : Str) = [92, 34, 110] := by decide +kernel
  rw [this]
  simp
theorem tl_tilde : tl ("~" : Str) = [126] := by decide +kernel
@[irreducible] def TA (x : Str) (p : Nat) : Prop := okP (F_u_law_text_at [.str x, .int (p : Nat)]) (· = encL (rT ((tl x).drop p) p [])) noXP
theorem text_at_ok (x : Str) (hlx : x.length ≤ 4500) (p0 : Nat) (hp0 : p0 ≤ x.length) : TA x p0 := by
  unfold TA
  generalize hR : rT ((tl x).drop p0) p0 [] = R
  unfold F_u_law_text_at m_u_law_text_at
  walk_at "ev"
  have lx : (tl x).length = x.length := (len_tl x).symm
  refine ⟨⟨by omega, by omega⟩, for_inv (fun i w S => ∃ (p : Nat) (acc : List Nat), i ≤ p ∧ p ≤ x.length ∧ acc.length ≤ p ∧ rT ((tl x).drop p) p acc = R ∧ S = [] ∧ w = [some (.d (.str x)), some (.d (.int (p : Nat))), some (.d (.str (txt acc))), none, none]) ⟨p0, [], by omega, hp0, by simp, hR, rfl, by rw [show txt [] = Str.ofString "" from (txt_eq tl_e).symm]⟩ (fun i d w S he hI => ?_) fun w S hI => ?_⟩
  · obtain ⟨p, acc, hip, hp, hacc, hr, e1, e2⟩ := hI
    subst e1 e2
    obtain ⟨hi, rfl⟩ := rangeD_get he
    walk_at "ev"
    refine ⟨fun z => ?_, fun z => ?_⟩
    · have ep : p = x.length := by omega
      have : (tl x).drop p = [] := List.drop_eq_nil_of_le (by omega)
      rw [this, rT_nil] at hr
      refine ⟨z2, ?_⟩
      rw [← hr, ep]
      rfl
    have hlt : p < (tl x).length := by omega
    have dr : (tl x).drop p = (tl x)[p] :: (tl x).drop (p + 1) := List.drop_eq_getElem_cons hlt
    have gp : x.cps.toList[p]? = some (tl x)[p] := List.getElem?_eq_getElem hlt
    generalize hc : (tl x)[p] = c at *
    rw [dr] at hr
    simp only [atI_n, gp, Option.map_some]
    walk_at "ev"
    simp only [chr_is _ 34 _ tl_q, chr_is _ 92 _ tl_bs]
    walk_at "ev"
    have i1 : ((p : Nat) : Int) + 1 = ((p + 1 : Nat) : Int) := rfl
    have i2 : ((p : Nat) : Int) + 2 = ((p + 2 : Nat) : Int) := rfl
    simp only [i1, i2]
    refine ⟨fun z => ?_, fun z34 => ⟨fun z => ?_, fun z92 => ?_⟩⟩
    · subst z
      rw [rT_q] at hr
      refine ⟨z2, ?_⟩
      rw [← hr]
      rfl
    · subst z
      refine ⟨fun q => ?_, fun q => ?_⟩
      · have : (tl x).drop (p + 1) = [] := List.drop_eq_nil_of_le (by omega)
        rw [this, rT_s0] at hr
        refine ⟨z2, ?_⟩
        rw [← hr]
        have : (x.length : Int) = ((p + 1 : Nat) : Int) := by omega
        rw [this]
        rfl
      have hlt2 : p + 1 < (tl x).length := by omega
      have dr2 : (tl x).drop (p + 1) = (tl x)[p + 1] :: (tl x).drop (p + 1 + 1) := List.drop_eq_getElem_cons hlt2
      have gp2 : x.cps.toList[p + 1]? = some (tl x)[p + 1] := List.getElem?_eq_getElem hlt2
      generalize hc2 : (tl x)[p + 1] = e at *
      rw [dr2] at hr
      simp only [atI_n, gp2, Option.map_some, notin_s, mem_esc]
      walk_at "ev"
      by_cases c3 : e = 92 ∨ e = 34 ∨ e = 110
      · rw [rT_s1 c3] at hr
        refine ⟨fun q => absurd c3 q, fun _ => ?_⟩
        simp only [get_n]
        walk_at "ev"
        refine ⟨?_, p + 2, acc ++ [if e = 110 then 10 else e], by omega, by omega, by rw [List.length_append]; simp; omega, hr, ?_⟩
        · rw [txt_len, txt_len]; exact z_le (by simp; omega)
        · rw [show txt acc ++ txt [if e = 110 then 10 else e] = txt (acc ++ [if e = 110 then 10 else e]) from txt_eq (by rw [tl_append, tl_txt, tl_txt])]
      · rw [rT_s2 c3] at hr
        refine ⟨fun _ => ⟨z2, ?_⟩, fun q => absurd q c3⟩
        rw [← hr]
        rfl
    · simp only [lt_s, gt_s, lt1 (show tl (chr1 c) = [c] from rfl) tl_sp, lt1 tl_tilde (show tl (chr1 c) = [c] from rfl), ord_s]
      walk_at "ev"
      have bad : cl1 c = false → R = .inl p := fun q => by rw [rT_n z34 z92 q] at hr; exact hr.symm
      have fin : cl1 c = false → (Mi.D.lst [D.int ((p : Nat) : Int), D.int (-1)]) = encL R := fun q => by rw [bad q]; rfl
      have cl : ∀ h : ¬ (32 ≤ c ∧ c ≤ 126 ∧ c ≠ 37), cl1 c = false := fun h => by
        unfold cl1
        rw [Bool.eq_false_iff]
        intro q
        simp only [Bool.and_eq_true, decide_eq_true_eq] at q
        exact h ⟨q.1.1, q.1.2, q.2⟩
      have good : 32 ≤ c → c ≤ 126 → c ≠ 37 → (txt acc).length + (chr1 c).length ≤ sizeLine ∧ ∃ (p' : Nat) (acc' : List Nat), i + 1 ≤ p' ∧ p' ≤ x.length ∧ acc'.length ≤ p' ∧ rT ((tl x).drop p') p' acc' = R ∧ [some (W.d (.str x)), some (.d (.int ((p + 1 : Nat) : Int))), some (.d (.str (txt acc ++ chr1 c))), none, none] = [some (W.d (.str x)), some (.d (.int ((p' : Nat) : Int))), some (.d (.str (txt acc'))), none, none] := fun h1 h2 h3 => by
        have q : cl1 c = true := by unfold cl1; simp [h1, h2, h3]
        rw [rT_c z34 z92 q] at hr
        refine ⟨?_, p + 1, acc ++ [c], by omega, by omega, by rw [List.length_append]; simp; omega, hr, ?_⟩
        · rw [txt_len, show (chr1 c).length = 1 from rfl]; exact z_le (by omega)
        · rw [show txt acc ++ chr1 c = txt (acc ++ [c]) from txt_eq (by rw [tl_append]; rfl)]
      refine ⟨fun q => ⟨z2, fin (cl (by omega))⟩, fun q => ⟨fun q2 => ⟨z2, fin (cl (by omega))⟩, fun q2 => ⟨fun q3 => ⟨z2, fin (cl (by omega))⟩, fun q3 => ?_⟩⟩⟩
      exact good (by omega) (by omega) (by omega)
  · obtain ⟨p, acc, hip, hp, hacc, hr, e1, e2⟩ := hI
    rw [rangeD_len] at hip
    omega
end Mi.k18

namespace Mi.k18
open PySem PySem.Spec PyProof.Rows L2 Mi Mi.P TL
local macro_rules | `(tactic| walk_at "ev") => `(tactic| try simp only [f3_D, f4_D, ls_D, repl_D, isi_nt, isi_ii', isi_si, isi_ti, isi_ss', isi_tstr, isi_ttu, isi_stu, is_it, is_st, is_tt', is_nb, wS_par3, wE_fmtZ, ok_fmtZ, int2_i, int2_b, okM_int2, okM_str, ok_oM, mtOk_sd, tB_s, okM_split, okM_part, okM_join, okM_join1, wE_joined, ok_joinD_nil, ok_joinD_cons, ok_fmt_i, ok_fmt_s, wE_fmt, wS_raise, wS_try, wS_par, wE_chain3, isi_is, isi_st, isi_it, isi_bt, isi_ibs, is_in, is_ib, is_sn, is_sb, is_tn, is_nn, is_bn, is_tt, is_ff, is_tf, is_ft, isn_tn, isn_nn, sl_s, ix_s, tuple_t, wS_seq, seqK_nx, seqK_rt, seqK_bk, seqK_ct, seqK_exc, loopK_nx, loopK_ct, loopK_bk, loopK_rt, loopK_exc, wE_yes, wS_nil, wS_ret, wS_retN, wS_expr, wS_if, wS_set, wS_brk, wS_cnt, wS_frz, wS_asg, wS_aug, wS_never, wS_for, wE_var, wE_c, wE_un, wE_bin, ok_ans, ok_o1, ok_o2, ok_ansT, okM_some, okM_none, okM_bind, okM_map, okM_ite, wE_tru, wE_mB, blW_bl, wE_andT, wE_orT, wE_notT, wE_and, wE_or, wE_not, wE_if, wE_chain, wE_nil, wE_cons, wE_fn, wE_tup, wE_lst, wE_new, ok_tup, ok_lst, ok_new, wE_sl, wE_noPart, wE_part, wE_mth, ok_append, ok_extend, wE_items, wE_rng1, wE_rng2, wE_zip, wE_callP, wE_callS, okP_runP, okR_runS, okR_ok, okR_exc, okR_bad, okP_ok, ok_gSet, ok_gSub, ok_gSeq, ok_gSeqL, ok_gAll_nil, ok_gAll_cons, vw_d, vw_l, okL_s, vws, pures, addD_i, addD_s, addD_l, addD_t, iaddD_i, subD_i, mulD_i, fdivD_i, modD_i, powD_i, negD_i, lt_i, le_i, gt_i, ge_i, eq_i, ne_i, eq_s, ne_s, eq_nl, ne_nl, truD_bl, truD_int, truD_lst, truD_tup, truD_str, truD_non, len_s, len_t, len_l, len_f, int_i, int_b, max2_i, min2_i, tuple_l, intOf_i, isi_ii, isi_bi, isi_tt, isi_ss, isi_ll, mtOk, cellOf, setItem, frzW, ix_t, ix_l, ix_f, sl_t, sl_l, atI_n, atI_0, atI_1, atI_2, atI_3, atI_4, atI_5, atI_6, atI_neg1, ixN_20, ixN_21, cutR, ent, forget, List.map_cons, List.map_nil, List.cons_append, List.nil_append, List.append_nil, List.length_cons, List.length_nil, List.replicate, List.getElem?_cons_zero, List.getElem?_cons_succ, List.getElem?_nil, List.set_cons_zero, List.set_cons_succ, List.set_nil, List.take_succ_cons, List.take_zero, List.take_nil, Option.bind_some, Option.bind_none, id, Nat.reduceAdd, Nat.reduceSub, Nat.reduceEqDiff, decide_eq_true_eq, decide_eq_false_iff_not, Bool.not_eq_true', Bool.not_eq_false', Bool.not_true, Bool.not_false, forall_eq', true_implies, false_implies, implies_true, and_true, true_and, and_self, reduceCtorEq, beq_self_eq_true, List.map_append, getLast?_of, List.isEmpty_nil, List.isEmpty_cons, Bool.false_eq_true, Bool.true_eq_false, forall_const, Nat.le_refl, eq_self, decide_true, decide_false, if_true, if_false, Int.not_lt, Int.not_le])
theorem txt_is (c d : Nat) (y : Str) (hy : tl y = [d]) : (txt [c] == y) = decide (c = d) := chr_is c d y hy
theorem txt_e (c : Nat) : (txt [c] == ("" : Str)) = false := by
  rw [Bool.eq_false_iff]
  intro z
  have := congrArg tl (beq_iff_eq.mp z)
  rw [tl_e, tl_txt] at this
  cases this
theorem tl_nums : tl ("-0123456789" : Str) = [45, 48, 49, 50, 51, 52, 53, 54, 55, 56, 57] := by decide +kernel
theorem in_num (c : Nat) : cmpIn (.str (txt [c])) (.str "-0123456789") = some (.bl (decide (c = 45 ∨ (48 ≤ c ∧ c ≤ 57)))) := by
  unfold cmpIn
  show Option.map (fun k => D.bl k) (some (inStr (txt [c]) "-0123456789")) = _
  have : inStr (txt [c]) "-0123456789" = decide (c = 45 ∨ (48 ≤ c ∧ c ≤ 57)) := by
    unfold inStr
    show (!(Builtin.Str.occurrences ("-0123456789" : Str) ⟨#[c]⟩ 0 _ 1).isEmpty) = _
    rw [PySem.StrLaws.found_one]
    show decide (c ∈ tl ("-0123456789" : Str)) = _
    rw [tl_nums, Bool.eq_iff_iff]
    simp only [List.mem_cons, List.not_mem_nil, or_false, decide_eq_true_eq]
    omega
  rw [this]
  rfl

theorem leaf_at {l : List Nat} {p c : Nat} {r : Res} (h : l[p]? = some c) : leaf l p r = (if c = 40 then r else if c = 34 then rT (l.drop (p + 1)) (p + 1) [] else if c = 45 ∨ (48 ≤ c ∧ c ≤ 57) then rNum l p
    else if c = 84 then .inr (.bl true, p + 1) else if c = 70 then .inr (.bl false, p + 1) else if c = 78 then .inr (.non, p + 1) else .inl p) := by
  unfold leaf; rw [h]
theorem leaf_no {l : List Nat} {p : Nat} {r : Res} (h : l[p]? = none) : leaf l p r = .inl p := by unfold leaf; rw [h]
/-- what stands behind a bracket, m levels being left -/
def rB (l : List Nat) (p : Nat) : Nat → Res
  | 0 => .inl p
  | m + 1 => rP (rV l m) l p
theorem rV_leaf (l : List Nat) (m p : Nat) : rV l m p = leaf l p (rB l p m) := by
  cases m <;> (conv => lhs; unfold rV) <;> rfl
def VOk (n : Nat) : Prop := ∀ (x : Str) (p m : Nat), m ≤ 20 → 2 * m + 2 ≤ n → p ≤ x.length → x.length ≤ 4500 →
  okP (F_u_value n [.str x, .int (p : Nat), .int ((20 - m : Nat) : Int)]) (QP (rV (tl x) m p)) (XPl (rV (tl x) m p))
def MOk (n : Nat) : Prop := ∀ (x : Str) (p m : Nat), m ≤ 20 → 2 * m + 1 ≤ n → p < x.length → x.length ≤ 4500 → (tl x)[p]? = some 40 →
  okP (F_u_members n [.str x, .int (p : Nat), .int ((20 - m + 1 : Nat) : Int)]) (QP (rB (tl x) p m)) (XPl (rB (tl x) p m))
theorem cut1 (x : Str) (p : Nat) (hp : p ≤ x.length) : cutS x (some ((p : Nat) : Int)) (some ((p + 1 : Nat) : Int)) = txt (((tl x).drop p).take 1) := txt_eq (by
  rw [cut_ij _ _ _ hp, Nat.add_sub_cancel_left])
theorem take1 {l : List Nat} {p c : Nat} (h : l[p]? = some c) : (l.drop p).take 1 = [c] := by
  have hp := (List.getElem?_eq_some_iff.mp h).1
  rw [List.drop_eq_getElem_cons hp, List.take_succ_cons, List.take_zero]
  rw [List.getElem?_eq_getElem hp] at h
  rw [Option.some.inj h]
theorem take1n {l : List Nat} {p : Nat} (h : l[p]? = none) : (l.drop p).take 1 = [] := by
  rw [List.drop_eq_nil_of_le (List.getElem?_eq_none_iff.mp h)]; rfl
theorem txt_no {y : Str} {d : Nat} (hy : tl y = [d]) : (txt [] == y) = false := by
  rw [Bool.eq_false_iff]
  intro z
  have := congrArg tl (beq_iff_eq.mp z)
  rw [hy, tl_txt] at this
  cases this
theorem value_step {n : Nat} (M : MOk n) : VOk (n + 1) := by
  intro x p m hm hn hp hlx
  rw [rV_leaf]
  unfold F_u_value m_u_value
  have lx : (tl x).length = x.length := (len_tl x).symm
  have i1 : ((p : Nat) : Int) + 1 = ((p + 1 : Nat) : Int) := rfl
  walk_at "ev"
  simp only [i1, cut1 x p hp]
  cases hc : (tl x)[p]? with
  | none =>
    rw [take1n hc, leaf_no hc]
    have e0 : (txt [] == ("" : Str)) = true := by rw [beq_iff_eq]; exact (txt_eq tl_e).symm
    rw [e0]
    refine ⟨fun _ => ?_, fun z => absurd z (by decide)⟩
    exact ⟨by decide, fx_do (by omega) ⟨_, rfl, rfl⟩⟩
  | some c =>
    have hlt : p < x.length := by have := (List.getElem?_eq_some_iff.mp hc).1; omega
    rw [take1 hc, leaf_at hc]
    simp only [txt_e, txt_is _ 40 _ tl_op, txt_is _ 34 _ tl_q, txt_is _ 84 _ tl_T, txt_is _ 70 _ tl_F, txt_is _ 78 _ tl_N, in_num]
    walk_at "ev"
    have deep : (((20 - m : Nat) : Int) + 1) = ((20 - m + 1 : Nat) : Int) := by omega
    rw [deep]
    by_cases c40 : c = 40
    · subst c40
      rw [if_pos rfl]
      exact ⟨fun _ => M x p m hm (by omega) hlt hlx hc, fun z => absurd rfl z⟩
    rw [if_neg c40]
    refine ⟨fun z => absurd z c40, fun _ => ?_⟩
    by_cases c34 : c = 34
    · subst c34
      rw [if_pos rfl]
      exact ⟨fun _ => quoted_ok x hlx (p + 1) (by omega), fun z => absurd rfl z⟩
    rw [if_neg c34]
    refine ⟨fun z => absurd z c34, fun _ => ?_⟩
    by_cases cn : c = 45 ∨ (48 ≤ c ∧ c ≤ 57)
    · rw [if_pos cn]
      exact ⟨fun _ => integer_ok x hlx p hlt, fun z => absurd cn z⟩
    rw [if_neg cn]
    refine ⟨fun z => absurd z cn, fun _ => ?_⟩
    by_cases c84 : c = 84
    · subst c84
      rw [if_pos rfl]
      exact ⟨fun _ => ⟨z2, _, _, rfl, rfl⟩, fun z => absurd rfl z⟩
    rw [if_neg c84]
    refine ⟨fun z => absurd z c84, fun _ => ?_⟩
    by_cases c70 : c = 70
    · subst c70
      rw [if_pos rfl]
      exact ⟨fun _ => ⟨z2, _, _, rfl, rfl⟩, fun z => absurd rfl z⟩
    rw [if_neg c70]
    refine ⟨fun z => absurd z c70, fun _ => ?_⟩
    by_cases c78 : c = 78
    · subst c78
      rw [if_pos rfl]
      exact ⟨fun _ => ⟨z2, _, _, rfl, rfl⟩, fun z => absurd rfl z⟩
    rw [if_neg c78]
    refine ⟨fun z => absurd z c78, fun _ => ?_⟩
    exact ⟨by decide, fx_do (by omega) ⟨_, rfl, rfl⟩⟩
theorem eq41 {l : List Nat} {p : Nat} : (txt ((l.drop p).take 1) == (")" : Str)) = decide (l[p]? = some 41) := by
  cases h : l[p]? with
  | none => rw [take1n h, txt_no tl_cl]; rfl
  | some c =>
    rw [take1 h, txt_is _ 41 _ tl_cl]
    by_cases z : c = 41
    · subst z; rfl
    · rw [decide_eq_false z, decide_eq_false fun q => z (Option.some.inj q)]
theorem eq32 {l : List Nat} {p : Nat} : (txt ((l.drop p).take 1) == (" " : Str)) = decide (l[p]? = some 32) := by
  cases h : l[p]? with
  | none => rw [take1n h, txt_no tl_sp]; rfl
  | some c =>
    rw [take1 h, txt_is _ 32 _ tl_sp]
    by_cases z : c = 32
    · subst z; rfl
    · rw [decide_eq_false z, decide_eq_false fun q => z (Option.some.inj q)]
theorem members_step {n : Nat} (V : VOk n) : MOk (n + 1) := by
  intro x p m hm hn hp hlx h40
  unfold F_u_members m_u_members
  have lx : (tl x).length = x.length := (len_tl x).symm
  have i1 : ((p : Nat) : Int) + 1 = ((p + 1 : Nat) : Int) := rfl
  have i2 : ((p : Nat) : Int) + 2 = ((p + 1 + 1 : Nat) : Int) := rfl
  walk_at "ev"
  simp only [i1, i2, cut1 x (p + 1) (by omega), eq41]
  cases m with
  | zero =>
    refine ⟨fun _ => ?_, fun z => absurd z (by omega)⟩
    exact ⟨by decide, fx_do (by omega) ⟨_, rfl, rfl⟩⟩
  | succ m =>
    refine ⟨fun z => absurd z (by omega), fun _ => ?_⟩
    have dd : ((20 - (m + 1) + 1 : Nat) : Int) = ((20 - m : Nat) : Int) := by omega
    rw [dd]
    show _ ∧ _
    generalize hR : rB (tl x) p (m + 1) = R
    have hR : rP (rV (tl x) m) (tl x) p = R := hR
    unfold rP at hR
    by_cases c41 : (tl x)[p + 1]? = some 41
    · rw [if_pos c41] at hR
      rw [decide_eq_true c41]
      refine ⟨fun _ => ⟨Nat.zero_le _, z2, _, _, hR.symm, rfl⟩, fun z => absurd z (by decide)⟩
    rw [if_neg c41] at hR
    rw [decide_eq_false c41]
    refine ⟨fun z => absurd z (by decide), fun _ => ⟨Nat.zero_le _, ?_⟩⟩
    walk_at "ev"
    refine while_inv (fun j w S => (∃ (at_ k : Nat) (acc : List D), j = x.length + 1 - at_ ∧ at_ < x.length ∧ x.length < k + at_ ∧ acc.length ≤ at_ ∧ rM (rV (tl x) m) (tl x) k (at_ + 1) acc = R ∧ S = [.lst acc] ∧
        w = [some (.d (.str x)), some (.d (.int (at_ : Nat))), some (.d (.int ((20 - m : Nat) : Int))), some (.l 0), some (.d (.str " ")), none]) ∨
      (∃ (e : Nat) (acc : List D), j = 0 ∧ e ≤ x.length ∧ acc.length ≤ e ∧ (tl x)[e]? ≠ some 32 ∧ (if (tl x)[e]? = some 41 then Sum.inr (D.tup acc, e + 1) else Sum.inl e) = R ∧ S = [.lst acc] ∧
        w = [some (.d (.str x)), some (.d (.int (e : Nat))), some (.d (.int ((20 - m : Nat) : Int))), some (.l 0), some (.d (.str (txt (((tl x).drop e).take 1)))), none])) _
      (.inl ⟨p, x.length + 1, [], rfl, hp, by omega, by simp, by rw [lx] at hR; exact hR, rfl, rfl⟩) fun j w S hI => ?_
    rcases hI with ⟨at_, k, acc, hj, hat, hk, hacc, hr, e1, e2⟩ | ⟨e, acc, hj, he, hacc, h32, hr, e1, e2⟩
    · subst e1 e2
      have ia : ((at_ : Nat) : Int) + 1 = ((at_ + 1 : Nat) : Int) := rfl
      walk_at "ev"
      rw [ia]
      obtain ⟨k', rfl⟩ : ∃ k', k = k' + 1 := ⟨k - 1, by omega⟩
      unfold rM at hr
      refine okP_mono (V x (at_ + 1) m (by omega) (by omega) (by omega) hlx) (fun d ⟨v, e, h1, h2⟩ => ?_) fun d ⟨q, h1, h2⟩ => ?_
      · subst h2
        obtain ⟨f1, f2⟩ := rV_fwd (tl x) m _ _ _ h1
        rw [lx] at f2
        rw [h1] at hr
        simp only at hr
        have ie : ((e : Nat) : Int) + 1 = ((e + 1 : Nat) : Int) := rfl
        walk_at "ev"
        rw [ie, cut1 x e f2]
        refine ⟨z_lt (by omega), ?_⟩
        by_cases q : (tl x)[e]? = some 32
        · rw [if_pos q] at hr
          have := (List.getElem?_eq_some_iff.mp q).1
          refine ⟨_, ?_, .inl ⟨e, k', acc ++ [v], rfl, by omega, by omega, by rw [List.length_append]; simp; omega, hr, rfl, ?_⟩⟩
          · omega
          · rw [take1 q, show txt [32] = Str.ofString " " from (txt_eq tl_sp).symm]
        · rw [if_neg q] at hr
          refine ⟨0, by omega, .inr ⟨e, acc ++ [v], rfl, f2, by rw [List.length_append]; simp; omega, q, hr, rfl, rfl⟩⟩
      · rw [h1] at hr
        simp only at hr
        exact ⟨_, hr.symm, h2⟩
    · subst e1 e2
      walk_at "ev"
      simp only [eq32, eq41]
      rw [decide_eq_false h32]
      refine ⟨fun z => absurd z (by decide), fun _ => ?_⟩
      walk_at "ev"
      refine ⟨fun z => ?_, fun z => ?_⟩
      · rw [if_neg (by first | exact z | simpa using z)] at hr
        exact ⟨by decide, fx_do (by omega) ⟨_, hr.symm, rfl⟩⟩
      · rw [if_pos (by first | exact z | simpa using z)] at hr
        have ie : ((e : Nat) : Int) + 1 = ((e + 1 : Nat) : Int) := rfl
        rw [ie]
        exact ⟨z2, _, _, hr.symm, rfl⟩
theorem both : ∀ n : Nat, VOk n ∧ MOk n
  | 0 => ⟨fun x p m h1 h2 => by omega, fun x p m h1 h2 => by omega⟩
  | n + 1 => ⟨value_step (both n).2, members_step (both n).1⟩
/-- what is told of a text -/
def tell (l : List Nat) : D := match rV l 20 0 with
  | .inl q => .tup [.str "bad", .int (q : Nat)]
  | .inr (d, e) => if e = l.length then .tup [.str "good", d] else .tup [.str "bad", .int (e : Nat)]
theorem value_top {x : Str} (hlx : x.length ≤ 4500) : okP (F_u_value 48 [.str x, .int 0, .int 0]) (QP (rV (tl x) 20 0)) (XPl (rV (tl x) 20 0)) := (both 48).1 x 0 20 (by decide) (by decide) (Nat.zero_le _) hlx
theorem read_ok (x : Str) (hlx : x.length ≤ 4500) : okP (F_read_plain [.str x]) (fun d => tell (tl x) = .tup [.str "good", d]) (fun e => ∃ q : Nat, e = bp q ∧ tell (tl x) = .tup [.str "bad", .int (q : Nat)]) := by
  have v := value_top hlx
  unfold F_read_plain m_read_plain tell
  have hf := rV_fwd (tl x) 20 0
  generalize rV (tl x) 20 0 = R at v hf ⊢
  have lx : (tl x).length = x.length := (len_tl x).symm
  rw [lx]
  walk_at "ev"
  refine okP_mono v (fun d ⟨w, e, h1, h2⟩ => ?_) fun d ⟨q, h1, h2⟩ => ?_
  · subst h1 h2
    obtain ⟨_, f2⟩ := hf _ _ rfl
    rw [lx] at f2
    walk_at "ev"
    refine ⟨fun z => ⟨by decide, fx_do (by omega) ⟨e, rfl, ?_⟩⟩, fun z => ?_⟩
    · rw [if_neg (by omega)]
    · rw [if_pos (by omega)]
  · subst h1 h2
    exact ⟨q, rfl, rfl⟩
end Mi.k18

namespace Mi.k18
open PySem PySem.Spec PyProof.Rows L2 Mi Mi.P TL
local macro_rules | `(tactic| walk_at "ev") => `(tactic| try simp only [f3_D, f4_D, ls_D, repl_D, isi_nt, isi_ii', isi_si, isi_ti, isi_ss', isi_tstr, isi_ttu, isi_stu, is_it, is_st, is_tt', is_nb, wS_par3, wE_fmtZ, ok_fmtZ, int2_i, int2_b, okM_int2, okM_str, ok_oM, mtOk_sd, tB_s, okM_split, okM_part, okM_join, okM_join1, wE_joined, ok_joinD_nil, ok_joinD_cons, ok_fmt_i, ok_fmt_s, wE_fmt, wS_raise, wS_try, wS_par, wE_chain3, isi_is, isi_st, isi_it, isi_bt, isi_ibs, is_in, is_ib, is_sn, is_sb, is_tn, is_nn, is_bn, is_tt, is_ff, is_tf, is_ft, isn_tn, isn_nn, sl_s, ix_s, tuple_t, wS_seq, seqK_nx, seqK_rt, seqK_bk, seqK_ct, seqK_exc, loopK_nx, loopK_ct, loopK_bk, loopK_rt, loopK_exc, wE_yes, wS_nil, wS_ret, wS_retN, wS_expr, wS_if, wS_set, wS_brk, wS_cnt, wS_frz, wS_asg, wS_aug, wS_never, wS_for, wE_var, wE_c, wE_un, wE_bin, ok_ans, ok_o1, ok_o2, ok_ansT, okM_some, okM_none, okM_bind, okM_map, okM_ite, wE_tru, wE_mB, blW_bl, wE_andT, wE_orT, wE_notT, wE_and, wE_or, wE_not, wE_if, wE_chain, wE_nil, wE_cons, wE_fn, wE_tup, wE_lst, wE_new, ok_tup, ok_lst, ok_new, wE_sl, wE_noPart, wE_part, wE_mth, ok_append, ok_extend, wE_items, wE_rng1, wE_rng2, wE_zip, wE_callP, wE_callS, okP_runP, okR_runS, okR_ok, okR_exc, okR_bad, okP_ok, ok_gSet, ok_gSub, ok_gSeq, ok_gSeqL, ok_gAll_nil, ok_gAll_cons, vw_d, vw_l, okL_s, vws, pures, addD_i, addD_s, addD_l, addD_t, iaddD_i, subD_i, mulD_i, fdivD_i, modD_i, powD_i, negD_i, lt_i, le_i, gt_i, ge_i, eq_i, ne_i, eq_s, ne_s, eq_nl, ne_nl, truD_bl, truD_int, truD_lst, truD_tup, truD_str, truD_non, len_s, len_t, len_l, len_f, int_i, int_b, max2_i, min2_i, tuple_l, intOf_i, isi_ii, isi_bi, isi_tt, isi_ss, isi_ll, mtOk, cellOf, setItem, frzW, ix_t, ix_l, ix_f, sl_t, sl_l, atI_n, atI_0, atI_1, atI_2, atI_3, atI_4, atI_5, atI_6, atI_neg1, ixN_20, ixN_21, cutR, ent, forget, List.map_cons, List.map_nil, List.cons_append, List.nil_append, List.append_nil, List.length_cons, List.length_nil, List.replicate, List.getElem?_cons_zero, List.getElem?_cons_succ, List.getElem?_nil, List.set_cons_zero, List.set_cons_succ, List.set_nil, List.take_succ_cons, List.take_zero, List.take_nil, Option.bind_some, Option.bind_none, id, Nat.reduceAdd, Nat.reduceSub, Nat.reduceEqDiff, decide_eq_true_eq, decide_eq_false_iff_not, Bool.not_eq_true', Bool.not_eq_false', Bool.not_true, Bool.not_false, forall_eq', true_implies, false_implies, implies_true, and_true, true_and, and_self, reduceCtorEq, beq_self_eq_true, List.map_append, getLast?_of, List.isEmpty_nil, List.isEmpty_cons, Bool.false_eq_true, Bool.true_eq_false, forall_const, Nat.le_refl, eq_self, decide_true, decide_false, if_true, if_false, Int.not_lt, Int.not_le])
theorem mem_tfn (c : Nat) : decide (c ∈ tl ("TFN" : Str)) = decide (c = 84 ∨ c = 70 ∨ c = 78) := by
  have : tl ("TFN" : Str) = [84, 70, 78] := by decide +kernel
  rw [this]
  simp
theorem mem_num (c : Nat) : decide (c ∈ tl ("-0123456789" : Str)) = decide (c = 45 ∨ (48 ≤ c ∧ c ≤ 57)) := by
  rw [tl_nums, Bool.eq_iff_iff]
  simp only [List.mem_cons, List.not_mem_nil, or_false, decide_eq_true_eq]
  omega
theorem tfn_T : dixD ([("T", .bl true), ("F", .bl false), ("N", .non)] : List (Str × D)) (.str (chr1 84)) = some (.bl true) := by rfl
theorem tfn_F : dixD ([("T", .bl true), ("F", .bl false), ("N", .non)] : List (Str × D)) (.str (chr1 70)) = some (.bl false) := by rfl
theorem tfn_N : dixD ([("T", .bl true), ("F", .bl false), ("N", .non)] : List (Str × D)) (.str (chr1 78)) = some .non := by rfl
theorem LQ_l {l : List Nat} {r : Res} {d : D} (h : d = encL r) : LQ l r d := .inl h
def LOk (n : Nat) : Prop := ∀ (x : Str) (p m : Nat), m ≤ 20 → m + 1 ≤ n → p ≤ x.length → x.length ≤ 4500 →
  okP (F_u_law_value_at n [.str x, .int (p : Nat), .int ((20 - m : Nat) : Int)]) (LQ (tl x) (rV (tl x) m p)) noXP
theorem law_step {n : Nat} (V : LOk n) : LOk (n + 1) := by
  intro x p m hm hn hp hlx
  rw [rV_leaf]
  unfold F_u_law_value_at m_u_law_value_at
  have lx : (tl x).length = x.length := (len_tl x).symm
  have i1 : ((p : Nat) : Int) + 1 = ((p + 1 : Nat) : Int) := rfl
  walk_at "ev"
  cases hc : (tl x)[p]? with
  | none =>
    have := List.getElem?_eq_none_iff.mp hc
    rw [leaf_no hc]
    refine ⟨fun _ => ⟨z2, .inl ?_⟩, fun z => absurd z (by omega)⟩
    have ep : x.length = p := by omega
    rw [ep]
    rfl
  | some c =>
    have hlt : p < x.length := by have := (List.getElem?_eq_some_iff.mp hc).1; omega
    refine ⟨fun z => absurd z (by omega), fun _ => ?_⟩
    have gp : x.cps.toList[p]? = some c := hc
    rw [leaf_at hc]
    simp only [atI_n, gp, Option.map_some, i1]
    walk_at "ev"
    simp only [in_s, mem_tfn, mem_num, chr_is _ 34 _ tl_q, chr_is _ 40 _ tl_op]
    walk_at "ev"
    by_cases ct : c = 84 ∨ c = 70 ∨ c = 78
    · refine ⟨fun _ => ?_, fun z => absurd ct z⟩
      rcases ct with z | z | z <;> subst z
      · rw [tfn_T]
        walk_at "ev"
        exact ⟨z2, .inl rfl⟩
      · rw [tfn_F]
        walk_at "ev"
        exact ⟨z2, .inl rfl⟩
      · rw [tfn_N]
        walk_at "ev"
        exact ⟨z2, .inl rfl⟩
    refine ⟨fun z => absurd z ct, fun _ => ⟨fun z => ?_, fun n34 => ⟨fun z => ?_, fun cn => ?_⟩⟩⟩
    · subst z
      rw [if_neg (by decide), if_pos rfl]
      have hp1 : p + 1 ≤ x.length := hlt
      have t := text_at_ok x hlx (p + 1) hp1
      unfold TA at t
      generalize F_u_law_text_at [D.str x, D.int ((p + 1 : Nat) : Int)] = r at t ⊢
      generalize rT ((tl x).drop (p + 1)) (p + 1) [] = R at t ⊢
      refine okP_by t ?_
      intro v e
      exact LQ_l e
    · have n40 : c ≠ 40 := by omega
      rw [if_neg n40, if_neg n34, if_pos z]
      exact digits_at_ok x hlx p hlt
    by_cases c40 : c = 40
    · subst c40
      rw [if_pos rfl]
      refine ⟨fun z => absurd rfl z, fun _ => ?_⟩
      cases m with
      | zero =>
        refine ⟨fun _ => ⟨z2, .inl rfl⟩, fun z => absurd z (by omega)⟩
      | succ m =>
        refine ⟨fun z => absurd z (by omega), fun _ => ?_⟩
        have dd : ((20 - (m + 1) : Nat) : Int) + 1 = ((20 - m : Nat) : Int) := by omega
        generalize hR : rB (tl x) p (m + 1) = R
        have hR : rP (rV (tl x) m) (tl x) p = R := hR
        unfold rP at hR
        refine ⟨Nat.zero_le _, fun z => ?_, fun z => ?_⟩
        · obtain ⟨c, gc⟩ : ∃ c, (tl x)[p + 1]? = some c := ⟨_, List.getElem?_eq_getElem (by omega)⟩
          have gc' : x.cps.toList[p + 1]? = some c := gc
          simp only [atI_n, gc', Option.map_some, chr_is _ 41 _ tl_cl]
          walk_at "ev"
          refine ⟨fun z => ?_, fun c41 => ?_⟩
          · subst z
            rw [if_pos gc] at hR
            refine ⟨Nat.zero_le _, z2, LQ_l ?_⟩
            rw [← hR]
            rfl
          · rw [if_neg fun y => c41 (Option.some.inj (gc.symm.trans y))] at hR
            have rgl : (((x.length : Nat) : Int) + 1).toNat = x.length + 1 := by omega
            refine ⟨⟨by omega, by omega⟩, ?_⟩
            rw [rgl]
            refine for_inv (fun i w S => ∃ (at_ k : Nat) (acc : List D), i < at_ + 1 ∧ at_ ≤ x.length ∧ x.length + 1 < k + at_ ∧ acc.length ≤ at_ ∧ rM (rV (tl x) m) (tl x) k at_ acc = R ∧ S = [] ∧
              w = [some (.d (.str x)), some (.d (.int (at_ : Nat))), some (.d (.int ((20 - (m + 1) : Nat) : Int))), some (.d (.str (chr1 40))), some (.d (.tup acc)), none, none, none]) ⟨p + 1, x.length + 1, [], by omega, by omega, by omega, by simp, by rw [lx] at hR; exact hR, rfl, rfl⟩ (fun i d w S he hI => ?_) fun w S hI => ?_
            · obtain ⟨at_, k, acc, hi0, hat, hk, hacc, hr, e1, e2⟩ := hI
              subst e1 e2
              walk_at "ev"
              rw [dd]
              obtain ⟨k', rfl⟩ : ∃ k', k = k' + 1 := ⟨k - 1, by omega⟩
              unfold rM at hr
              refine okP_by (V x at_ m (by omega) (by omega) hat hlx) ?_
              intro d hd
              rcases hd with hd | ⟨q, c, h1, h2, h3, h4⟩
              · subst hd
                cases hv : rV (tl x) m at_ with
                | inl q =>
                  rw [hv] at hr
                  simp only at hr
                  simp only [encL]
                  walk_at "ev"
                  refine ⟨z2, LQ_l ?_⟩
                  rw [← hr]
                  rfl
                | inr z =>
                  obtain ⟨v, e⟩ := z
                  obtain ⟨f1, f2⟩ := rV_fwd (tl x) m _ _ _ hv
                  rw [lx] at f2
                  rw [hv] at hr
                  simp only at hr
                  simp only [encL]
                  have ie : ((e : Nat) : Int) + 1 = ((e + 1 : Nat) : Int) := rfl
                  walk_at "ev"
                  refine ⟨z_le (by decide), z_le (by omega), fun z => ?_, fun z => ?_⟩
                  · have he : (tl x)[e]? = none := List.getElem?_eq_none_iff.mpr (by omega)
                    rw [he, if_neg (by simp), if_neg (by simp)] at hr
                    refine ⟨z2, LQ_l ?_⟩
                    rw [← hr]
                    have : x.length = e := by omega
                    rw [this]
                    rfl
                  · obtain ⟨c, gc⟩ : ∃ c, (tl x)[e]? = some c := ⟨_, List.getElem?_eq_getElem (by omega)⟩
                    have gc' : x.cps.toList[e]? = some c := gc
                    rw [gc] at hr
                    simp only [atI_n, gc', Option.map_some, chr_is _ 41 _ tl_cl, chr_is _ 32 _ tl_sp]
                    walk_at "ev"
                    rw [ie]
                    refine ⟨fun z => ?_, fun z => ⟨fun z2' => ?_, fun z2' => ?_⟩⟩
                    · subst z
                      rw [if_neg (by simp), if_pos rfl] at hr
                      refine ⟨z2, LQ_l ?_⟩
                      rw [← hr]
                      rfl
                    · rw [if_neg fun y => z2' (Option.some.inj y), if_neg fun y => z (Option.some.inj y)] at hr
                      refine ⟨z2, LQ_l ?_⟩
                      rw [← hr]
                      rfl
                    · rw [if_pos (by rw [z2'])] at hr
                      refine ⟨e + 1, k', acc ++ [v], by omega, by omega, by omega, by rw [List.length_append]; simp; omega, hr, rfl⟩
              · subst h2
                rw [h1] at hr
                simp only at hr
                walk_at "ev"
                have hq := (List.getElem?_eq_some_iff.mp h3).1
                have gc' : x.cps.toList[q]? = some c := h3
                have cd := dg_iff.mp h4
                refine ⟨z_le (by decide), z_le (by omega), fun z => absurd z (by omega), fun z => ?_⟩
                simp only [atI_n, gc', Option.map_some, chr_is _ 41 _ tl_cl, chr_is _ 32 _ tl_sp]
                walk_at "ev"
                refine ⟨fun z => absurd z (by omega), fun _ => ⟨fun _ => ⟨z2, LQ_l ?_⟩, fun z => absurd z (by omega)⟩⟩
                rw [← hr]
                rfl
            · obtain ⟨at_, k, acc, hi0, hat, hk, hacc, hr, e1, e2⟩ := hI
              rw [rangeD_len] at hi0
              omega
        · rw [if_neg fun y => by have := (List.getElem?_eq_some_iff.mp y).1; omega] at hR
          have rgl : (((x.length : Nat) : Int) + 1).toNat = x.length + 1 := by omega
          refine ⟨⟨by omega, by omega⟩, ?_⟩
          rw [rgl]
          refine for_inv (fun i w S => ∃ (at_ k : Nat) (acc : List D), i < at_ + 1 ∧ at_ ≤ x.length ∧ x.length + 1 < k + at_ ∧ acc.length ≤ at_ ∧ rM (rV (tl x) m) (tl x) k at_ acc = R ∧ S = [] ∧
            w = [some (.d (.str x)), some (.d (.int (at_ : Nat))), some (.d (.int ((20 - (m + 1) : Nat) : Int))), some (.d (.str (chr1 40))), some (.d (.tup acc)), none, none, none]) ⟨p + 1, x.length + 1, [], by omega, by omega, by omega, by simp, by rw [lx] at hR; exact hR, rfl, rfl⟩ (fun i d w S he hI => ?_) fun w S hI => ?_
          · obtain ⟨at_, k, acc, hi0, hat, hk, hacc, hr, e1, e2⟩ := hI
            subst e1 e2
            walk_at "ev"
            rw [dd]
            obtain ⟨k', rfl⟩ : ∃ k', k = k' + 1 := ⟨k - 1, by omega⟩
            unfold rM at hr
            refine okP_by (V x at_ m (by omega) (by omega) hat hlx) ?_
            intro d hd
            rcases hd with hd | ⟨q, c, h1, h2, h3, h4⟩
            · subst hd
              cases hv : rV (tl x) m at_ with
              | inl q =>
                rw [hv] at hr
                simp only at hr
                simp only [encL]
                walk_at "ev"
                refine ⟨z2, LQ_l ?_⟩
                rw [← hr]
                rfl
              | inr z =>
                obtain ⟨v, e⟩ := z
                obtain ⟨f1, f2⟩ := rV_fwd (tl x) m _ _ _ hv
                rw [lx] at f2
                rw [hv] at hr
                simp only at hr
                simp only [encL]
                have ie : ((e : Nat) : Int) + 1 = ((e + 1 : Nat) : Int) := rfl
                walk_at "ev"
                refine ⟨z_le (by decide), z_le (by omega), fun z => ?_, fun z => ?_⟩
                · have he : (tl x)[e]? = none := List.getElem?_eq_none_iff.mpr (by omega)
                  rw [he, if_neg (by simp), if_neg (by simp)] at hr
                  refine ⟨z2, LQ_l ?_⟩
                  rw [← hr]
                  have : x.length = e := by omega
                  rw [this]
                  rfl
                · obtain ⟨c, gc⟩ : ∃ c, (tl x)[e]? = some c := ⟨_, List.getElem?_eq_getElem (by omega)⟩
                  have gc' : x.cps.toList[e]? = some c := gc
                  rw [gc] at hr
                  simp only [atI_n, gc', Option.map_some, chr_is _ 41 _ tl_cl, chr_is _ 32 _ tl_sp]
                  walk_at "ev"
                  rw [ie]
                  refine ⟨fun z => ?_, fun z => ⟨fun z2' => ?_, fun z2' => ?_⟩⟩
                  · subst z
                    rw [if_neg (by simp), if_pos rfl] at hr
                    refine ⟨z2, LQ_l ?_⟩
                    rw [← hr]
                    rfl
                  · rw [if_neg fun y => z2' (Option.some.inj y), if_neg fun y => z (Option.some.inj y)] at hr
                    refine ⟨z2, LQ_l ?_⟩
                    rw [← hr]
                    rfl
                  · rw [if_pos (by rw [z2'])] at hr
                    refine ⟨e + 1, k', acc ++ [v], by omega, by omega, by omega, by rw [List.length_append]; simp; omega, hr, rfl⟩
            · subst h2
              rw [h1] at hr
              simp only at hr
              walk_at "ev"
              have hq := (List.getElem?_eq_some_iff.mp h3).1
              have gc' : x.cps.toList[q]? = some c := h3
              have cd := dg_iff.mp h4
              refine ⟨z_le (by decide), z_le (by omega), fun z => absurd z (by omega), fun z => ?_⟩
              simp only [atI_n, gc', Option.map_some, chr_is _ 41 _ tl_cl, chr_is _ 32 _ tl_sp]
              walk_at "ev"
              refine ⟨fun z => absurd z (by omega), fun _ => ⟨fun _ => ⟨z2, LQ_l ?_⟩, fun z => absurd z (by omega)⟩⟩
              rw [← hr]
              rfl
          · obtain ⟨at_, k, acc, hi0, hat, hk, hacc, hr, e1, e2⟩ := hI
            rw [rangeD_len] at hi0
            omega
    · rw [if_neg c40, if_neg n34, if_neg cn, if_neg fun y => ct (.inl y), if_neg fun y => ct (.inr (.inl y)), if_neg fun y => ct (.inr (.inr y))]
      exact ⟨fun _ => ⟨z2, LQ_l rfl⟩, fun z => absurd z c40⟩
theorem law_all : ∀ n : Nat, LOk n
  | 0 => fun x p m h1 h2 => by omega
  | n + 1 => law_step (law_all n)
end Mi.k18

namespace Mi.k18
open PySem PySem.Spec PyProof.Rows L2 Mi Mi.P TL
local macro_rules | `(tactic| walk_at "ev") => `(tactic| try simp only [f3_D, f4_D, ls_D, repl_D, isi_nt, isi_ii', isi_si, isi_ti, isi_ss', isi_tstr, isi_ttu, isi_stu, is_it, is_st, is_tt', is_nb, wS_par3, wE_fmtZ, ok_fmtZ, int2_i, int2_b, okM_int2, okM_str, ok_oM, mtOk_sd, tB_s, okM_split, okM_part, okM_join, okM_join1, wE_joined, ok_joinD_nil, ok_joinD_cons, ok_fmt_i, ok_fmt_s, wE_fmt, wS_raise, wS_try, wS_par, wE_chain3, isi_is, isi_st, isi_it, isi_bt, isi_ibs, is_in, is_ib, is_sn, is_sb, is_tn, is_nn, is_bn, is_tt, is_ff, is_tf, is_ft, isn_tn, isn_nn, sl_s, ix_s, tuple_t, wS_seq, seqK_nx, seqK_rt, seqK_bk, seqK_ct, seqK_exc, loopK_nx, loopK_ct, loopK_bk, loopK_rt, loopK_exc, wE_yes, wS_nil, wS_ret, wS_retN, wS_expr, wS_if, wS_set, wS_brk, wS_cnt, wS_frz, wS_asg, wS_aug, wS_never, wS_for, wE_var, wE_c, wE_un, wE_bin, ok_ans, ok_o1, ok_o2, ok_ansT, okM_some, okM_none, okM_bind, okM_map, okM_ite, wE_tru, wE_mB, blW_bl, wE_andT, wE_orT, wE_notT, wE_and, wE_or, wE_not, wE_if, wE_chain, wE_nil, wE_cons, wE_fn, wE_tup, wE_lst, wE_new, ok_tup, ok_lst, ok_new, wE_sl, wE_noPart, wE_part, wE_mth, ok_append, ok_extend, wE_items, wE_rng1, wE_rng2, wE_zip, wE_callP, wE_callS, okP_runP, okR_runS, okR_ok, okR_exc, okR_bad, okP_ok, ok_gSet, ok_gSub, ok_gSeq, ok_gSeqL, ok_gAll_nil, ok_gAll_cons, vw_d, vw_l, okL_s, vws, pures, addD_i, addD_s, addD_l, addD_t, iaddD_i, subD_i, mulD_i, fdivD_i, modD_i, powD_i, negD_i, lt_i, le_i, gt_i, ge_i, eq_i, ne_i, eq_s, ne_s, eq_nl, ne_nl, truD_bl, truD_int, truD_lst, truD_tup, truD_str, truD_non, len_s, len_t, len_l, len_f, int_i, int_b, max2_i, min2_i, tuple_l, intOf_i, isi_ii, isi_bi, isi_tt, isi_ss, isi_ll, mtOk, cellOf, setItem, frzW, ix_t, ix_l, ix_f, sl_t, sl_l, atI_n, atI_0, atI_1, atI_2, atI_3, atI_4, atI_5, atI_6, atI_neg1, ixN_20, ixN_21, cutR, ent, forget, List.map_cons, List.map_nil, List.cons_append, List.nil_append, List.append_nil, List.length_cons, List.length_nil, List.replicate, List.getElem?_cons_zero, List.getElem?_cons_succ, List.getElem?_nil, List.set_cons_zero, List.set_cons_succ, List.set_nil, List.take_succ_cons, List.take_zero, List.take_nil, Option.bind_some, Option.bind_none, id, Nat.reduceAdd, Nat.reduceSub, Nat.reduceEqDiff, decide_eq_true_eq, decide_eq_false_iff_not, Bool.not_eq_true', Bool.not_eq_false', Bool.not_true, Bool.not_false, forall_eq', true_implies, false_implies, implies_true, and_true, true_and, and_self, reduceCtorEq, beq_self_eq_true, List.map_append, getLast?_of, List.isEmpty_nil, List.isEmpty_cons, Bool.false_eq_true, Bool.true_eq_false, forall_const, Nat.le_refl, eq_self, decide_true, decide_false, if_true, if_false, Int.not_lt, Int.not_le])
@[irreducible] def LR (x : Str) : Prop := okP (F_u_law_value_at 24 [.str x, .int 0, .int 0]) (LQ (tl x) (rV (tl x) 20 0)) noXP
theorem law_top {x : Str} (hlx : x.length ≤ 4500) : LR x := by
  unfold LR
  exact law_all 24 x 0 20 (by decide) (by decide) (Nat.zero_le _) hlx
theorem read_law (x : Str) (hlx : x.length ≤ 4500) : okP (F_u_law_read [.str x]) (· = tell (tl x)) noXP := by
  have v := law_top hlx
  unfold LR at v
  unfold F_u_law_read m_u_law_read tell
  have hf := rV_fwd (tl x) 20 0
  generalize rV (tl x) 20 0 = R at v hf ⊢
  have lx : (tl x).length = x.length := (len_tl x).symm
  rw [lx]
  walk_at "ev"
  generalize F_u_law_value_at 24 [D.str x, D.int 0, D.int 0] = r at v ⊢
  refine okP_by v ?_
  intro d hd
  rcases hd with hd | ⟨q, c, h1, h2, h3, h4⟩
  · subst hd
    cases R with
    | inl q =>
      simp only [encL]
      walk_at "ev"
      first
        | exact z2
        | exact ⟨z2, rfl⟩
    | inr z =>
      obtain ⟨v, e⟩ := z
      simp only [encL]
      obtain ⟨_, f2⟩ := hf _ _ rfl
      rw [lx] at f2
      walk_at "ev"
      refine ⟨fun z => ⟨z2, ?_⟩, fun z => ⟨z2, ?_⟩⟩
      · rw [if_pos (by omega)]
      · rw [if_neg (by omega)]
  · subst h2 h1
    have hq := (List.getElem?_eq_some_iff.mp h3).1
    walk_at "ev"
    first
      | exact ⟨fun z => absurd z (by omega), fun _ => z2⟩
      | exact ⟨fun z => ⟨z2, absurd z (by omega)⟩, fun _ => z2⟩
      | exact ⟨fun z => absurd z (by omega), fun _ => ⟨z2, rfl⟩⟩
theorem isX_t {q : Nat} : isX (okT [("BadPlain", true)]) (bp q) = mYes := by
  funext w S
  unfold isX
  have : okT [("BadPlain", true)] (bp q).cls = some true := by
    show okT [("BadPlain", true)] ("BadPlain" : Str) = _
    decide +kernel
  rw [this]
  rfl
theorem wE_isf {q : Nat} {w : Lw} {S : List C} {Q : Bool → List C → Prop} {X : XP} : wE (isX (okT [("BadPlain", false)]) (bp q)) w S Q X = Q false S := by
  have : okT [("BadPlain", false)] (bp q).cls = some false := by
    show okT [("BadPlain", false)] ("BadPlain" : Str) = _
    decide +kernel
  unfold wE isX
  rw [this]
  rfl
theorem fld_p {q : Nat} : fldX "BadPlain" "place" (bp q) = mC (.int (q : Nat)) := by
  funext w S
  unfold fldX mC
  rw [if_pos (show (bp q).cls = ("BadPlain" : Str) from rfl)]
  have : ((bp q).ks.zip (bp q).vs).lookup ("place" : Str) = some (.int (q : Nat)) := by
    show List.lookup ("place" : Str) [(("place" : Str), D.int q)] = _
    rw [List.lookup_cons, beq_self_eq_true]
  rw [this]
theorem told_ok (x : Str) (hlx : x.length ≤ 4500) : okP (F_u_law_told [.str x]) (· = tell (tl x)) noXP := by
  have rd := read_ok x hlx
  unfold F_u_law_told m_u_law_told
  walk_at "ev"
  refine okP_mono rd (fun v e => ?_) fun e ⟨q, e1, e2⟩ => ?_
  · walk_at "ev"
    exact ⟨z2, e.symm⟩
  · subst e1
    rw [e2]
    have ek : okT [("BadPlain", true)] (bp q).cls = some true := by
      show okT [("BadPlain", true)] ("BadPlain" : Str) = _
      decide +kernel
    unfold hdl
    simp only [ek, isX_t, fld_p]
    show okO (if 1 < 2 then unsl 1 ((sSeq (sIf (mOrT (mNotT mYes) (mOrT (mNotT mYes) (isX (okT [("BadPlain", false)]) (bp q)))) (sRet (mTup (mCons (mC (.str "bad")) (mCons (mUn (o1 negD) (mC (.int 5))) (mNil))))) (sNil)) (sRet (mTup (mCons (mC (.str "bad")) (mCons (mC (.int (q : Nat))) (mNil)))))) [some (.d (.str x)), none] []) else .bad) _
    rw [if_pos (by decide)]
    have st : wS (sSeq (sIf (mOrT (mNotT mYes) (mOrT (mNotT mYes) (isX (okT [("BadPlain", false)]) (bp q)))) (sRet (mTup (mCons (mC (.str "bad")) (mCons (mUn (o1 negD) (mC (.int 5))) (mNil))))) (sNil)) (sRet (mTup (mCons (mC (.str "bad")) (mCons (mC (.int (q : Nat))) (mNil)))))) [some (.d (.str x)), none] [] (fun o => o = .rt (.d (.tup [.str "bad", .int (q : Nat)])) []) := by
      walk_at "ev"
      simp only [wE_isf]
      walk_at "ev"
      exact z2
    generalize (sSeq (sIf (mOrT (mNotT mYes) (mOrT (mNotT mYes) (isX (okT [("BadPlain", false)]) (bp q)))) (sRet (mTup (mCons (mC (.str "bad")) (mCons (mUn (o1 negD) (mC (.int 5))) (mNil))))) (sNil)) (sRet (mTup (mCons (mC (.str "bad")) (mCons (mC (.int (q : Nat))) (mNil)))))) = m at st ⊢
    unfold wS at st
    cases em : m [some (.d (.str x)), none] [] with
    | rt y S1 =>
      rw [em] at st
      cases st
      rfl
    | bad => rw [em] at st; exact st.elim
    | nx _ _ => rw [em] at st; cases st
    | bk _ _ => rw [em] at st; cases st
    | ct _ _ => rw [em] at st; cases st
    | exc _ _ _ => rw [em] at st; cases st
theorem tell_sm {x : Str} (hlx : x.length ≤ 4500) : Sm 24 (tell (tl x)) := by
  have lx : (tl x).length = x.length := (len_tl x).symm
  have h := rV_sm (l := tl x) (by omega) 20 0
  unfold tell
  cases e : rV (tl x) 20 0 with
  | inl q =>
    refine .tup (fun y hy => ?_) (Nat.le_trans (Nat.le_of_eq (by rfl : _ = 2)) (by decide))
    rcases List.mem_cons.mp hy with z | z
    · rw [z]; exact .str _
    · rw [List.mem_singleton.mp z]; exact .int _
  | inr z =>
    obtain ⟨v, n⟩ := z
    have hv := h v n e
    have up : ∀ (k : Nat) (d : D), Sm k d → ∀ m, k ≤ m → Sm m d := by
      intro k d h
      induction h with
      | non => intro m hm; obtain ⟨m, rfl⟩ : ∃ j, m = j + 1 := ⟨m - 1, by omega⟩; exact .non
      | bl b => intro m hm; obtain ⟨m, rfl⟩ : ∃ j, m = j + 1 := ⟨m - 1, by omega⟩; exact .bl b
      | int i => intro m hm; obtain ⟨m, rfl⟩ : ∃ j, m = j + 1 := ⟨m - 1, by omega⟩; exact .int i
      | str s => intro m hm; obtain ⟨m, rfl⟩ : ∃ j, m = j + 1 := ⟨m - 1, by omega⟩; exact .str s
      | tup h hl ih => intro m hm; obtain ⟨m, rfl⟩ : ∃ j, m = j + 1 := ⟨m - 1, by omega⟩; exact .tup (fun x hx => ih x hx m (by omega)) hl
    simp only
    split
    · refine .tup (fun y hy => ?_) (Nat.le_trans (Nat.le_of_eq (by rfl : _ = 2)) (by decide))
      rcases List.mem_cons.mp hy with z | z
      · rw [z]; exact .str _
      · rw [List.mem_singleton.mp z]; exact up _ _ hv 23 (by decide)
    · refine .tup (fun y hy => ?_) (Nat.le_trans (Nat.le_of_eq (by rfl : _ = 2)) (by decide))
      rcases List.mem_cons.mp hy with z | z
      · rw [z]; exact .str _
      · rw [List.mem_singleton.mp z]; exact .int _
theorem same_told {x : Str} (hlx : x.length ≤ 4500) : okP (F_u_law_same 24 [tell (tl x), tell (tl x)]) (· = .bl true) noXP := same_ok 24 _ (tell_sm hlx)
end Mi.k18

namespace Mi.k18
open PySem PySem.Spec PyProof.Rows L2 Mi Mi.P TL
local macro_rules | `(tactic| walk_at "ev") => `(tactic| try simp only [f3_D, f4_D, ls_D, repl_D, isi_nt, isi_ii', isi_si, isi_ti, isi_ss', isi_tstr, isi_ttu, isi_stu, is_it, is_st, is_tt', is_nb, wS_par3, wE_fmtZ, ok_fmtZ, int2_i, int2_b, okM_int2, okM_str, ok_oM, mtOk_sd, tB_s, okM_split, okM_part, okM_join, okM_join1, wE_joined, ok_joinD_nil, ok_joinD_cons, ok_fmt_i, ok_fmt_s, wE_fmt, wS_raise, wS_try, wS_par, wE_chain3, isi_is, isi_st, isi_it, isi_bt, isi_ibs, is_in, is_ib, is_sn, is_sb, is_tn, is_nn, is_bn, is_tt, is_ff, is_tf, is_ft, isn_tn, isn_nn, sl_s, ix_s, tuple_t, wS_seq, seqK_nx, seqK_rt, seqK_bk, seqK_ct, seqK_exc, loopK_nx, loopK_ct, loopK_bk, loopK_rt, loopK_exc, wE_yes, wS_nil, wS_ret, wS_retN, wS_expr, wS_if, wS_set, wS_brk, wS_cnt, wS_frz, wS_asg, wS_aug, wS_never, wS_for, wE_var, wE_c, wE_un, wE_bin, ok_ans, ok_o1, ok_o2, ok_ansT, okM_some, okM_none, okM_bind, okM_map, okM_ite, wE_tru, wE_mB, blW_bl, wE_andT, wE_orT, wE_notT, wE_and, wE_or, wE_not, wE_if, wE_chain, wE_nil, wE_cons, wE_fn, wE_tup, wE_lst, wE_new, ok_tup, ok_lst, ok_new, wE_sl, wE_noPart, wE_part, wE_mth, ok_append, ok_extend, wE_items, wE_rng1, wE_rng2, wE_zip, wE_callP, wE_callS, okP_runP, okR_runS, okR_ok, okR_exc, okR_bad, okP_ok, ok_gSet, ok_gSub, ok_gSeq, ok_gSeqL, ok_gAll_nil, ok_gAll_cons, vw_d, vw_l, okL_s, vws, pures, addD_i, addD_s, addD_l, addD_t, iaddD_i, subD_i, mulD_i, fdivD_i, modD_i, powD_i, negD_i, lt_i, le_i, gt_i, ge_i, eq_i, ne_i, eq_s, ne_s, eq_nl, ne_nl, truD_bl, truD_int, truD_lst, truD_tup, truD_str, truD_non, len_s, len_t, len_l, len_f, int_i, int_b, max2_i, min2_i, tuple_l, intOf_i, isi_ii, isi_bi, isi_tt, isi_ss, isi_ll, mtOk, cellOf, setItem, frzW, ix_t, ix_l, ix_f, sl_t, sl_l, atI_n, atI_0, atI_1, atI_2, atI_3, atI_4, atI_5, atI_6, atI_neg1, ixN_20, ixN_21, cutR, ent, forget, List.map_cons, List.map_nil, List.cons_append, List.nil_append, List.append_nil, List.length_cons, List.length_nil, List.replicate, List.getElem?_cons_zero, List.getElem?_cons_succ, List.getElem?_nil, List.set_cons_zero, List.set_cons_succ, List.set_nil, List.take_succ_cons, List.take_zero, List.take_nil, Option.bind_some, Option.bind_none, id, Nat.reduceAdd, Nat.reduceSub, Nat.reduceEqDiff, decide_eq_true_eq, decide_eq_false_iff_not, Bool.not_eq_true', Bool.not_eq_false', Bool.not_true, Bool.not_false, forall_eq', true_implies, false_implies, implies_true, and_true, true_and, and_self, reduceCtorEq, beq_self_eq_true, List.map_append, getLast?_of, List.isEmpty_nil, List.isEmpty_cons, Bool.false_eq_true, Bool.true_eq_false, forall_const, Nat.le_refl, eq_self, decide_true, decide_false, if_true, if_false, Int.not_lt, Int.not_le])
def bnd : Nat → Nat
  | 0 => 21
  | k + 1 => 3 * bnd k + 4
theorem bnd_ge : ∀ k, 21 ≤ bnd k
  | 0 => Nat.le_refl _
  | k + 1 => by have := bnd_ge k; show 21 ≤ 3 * bnd k + 4; omega
theorem bnd_4 : bnd 4 = 1861 := rfl
theorem shPs_bnd {b : Nat} : ∀ xs : List D, (∀ x ∈ xs, (shP x).length ≤ b) → xs.length ≤ 3 → (shPs xs).length ≤ 3 * b + 2
  | [], _, _ => by simp [shPs]
  | [x], h, _ => by have := h x (by simp); rw [shPs]; omega
  | [x, y], h, _ => by
    have a := h x (by simp)
    have b := h y (by simp)
    rw [shPs, shPs]
    simp
    omega
  | [x, y, z], h, _ => by
    have a := h x (by simp)
    have b := h y (by simp)
    have c := h z (by simp)
    rw [shPs, shPs, shPs]
    simp
    omega
  | x :: y :: z :: u :: r, _, h => by simp at h
theorem deps_bnd {b : Nat} : ∀ xs : List D, (∀ x ∈ xs, dep x ≤ b) → deps xs ≤ b
  | [], _ => by unfold deps; omega
  | x :: r, h => by
    have a := h x (by simp)
    have q := deps_bnd r fun y hy => h y (by simp [hy])
    unfold deps
    omega
def VL (b k : Nat) (d : D) : Prop := Pl d ∧ dep d ≤ k ∧ (shP d).length ≤ b
theorem vl_leaf {d : D} {k : Nat} (h : Pl d) (hd : dep d = 0) (hl : (shP d).length ≤ 21) : VL (bnd k) k d := ⟨h, by omega, by have := bnd_ge k; omega⟩
theorem vl_int {i : Int} {k : Nat} (h : i.natAbs < 10 ^ 20) : VL (bnd k) k (.int i) := vl_leaf (.int h) (by unfold dep; rfl) (by
  have := digL_len h
  unfold shP
  rw [List.length_append]
  split <;> simp <;> omega)
theorem vl_str {cs : List Nat} {k : Nat} (h : ∀ c ∈ cs, okC c = true) (hl : cs.length ≤ 8) : VL (bnd k) k (.str (txt cs)) := vl_leaf (.str h) (by unfold dep; rfl) (by
  rw [sh_str, tl_txt]
  have := esc_len cs
  omega)
theorem vl_tup {xs : List D} {k : Nat} (h : ∀ x ∈ xs, VL (bnd k) k x) (hl : xs.length ≤ 3) : VL (bnd (k + 1)) (k + 1) (.tup xs) := by
  refine ⟨.tup fun x hx => (h x hx).1, ?_, ?_⟩
  · have := deps_bnd xs fun x hx => (h x hx).2.1
    unfold dep
    omega
  · have := shPs_bnd xs (fun x hx => (h x hx).2.2) hl
    rw [sh_tup]
    show _ ≤ 3 * bnd k + 4
    omega

def lfs : List D := [.non, .bl true, .bl false, .int 0, .int (-7), .int 120, .str "", .str "a\"b", .str "x\ny", .str "\\", .str " ("]
theorem vl_s {s : Str} {k : Nat} (h : (tl s).all okC = true) (hl : (tl s).length ≤ 8) : VL (bnd k) k (.str s) := by
  have := vl_str (cs := tl s) (k := k) (fun c hc => List.all_eq_true.mp h c hc) hl
  exact this
theorem lfs_ok {k : Nat} : ∀ d ∈ lfs, VL (bnd k) k d := by
  intro d hd
  unfold lfs at hd
  simp only [List.mem_cons, List.not_mem_nil, or_false] at hd
  rcases hd with h | h | h | h | h | h | h | h | h | h | h <;> subst h
  · exact vl_leaf .non rfl (by simp [shP])
  · exact vl_leaf (.bl true) rfl (by simp [shP])
  · exact vl_leaf (.bl false) rfl (by simp [shP])
  · exact vl_int (by decide)
  · exact vl_int (by decide)
  · exact vl_int (by decide)
  · exact vl_s (by decide +kernel) (by decide +kernel)
  · exact vl_s (by decide +kernel) (by decide +kernel)
  · exact vl_s (by decide +kernel) (by decide +kernel)
  · exact vl_s (by decide +kernel) (by decide +kernel)
  · exact vl_s (by decide +kernel) (by decide +kernel)
theorem value_drawn (is : List Int) : ∀ (n deep k : Nat) (T : List C), deep < n → okR (F_u_law_value n [.l 0, .d (.int (deep : Nat))] (Lib.bx is k :: T)) (fun a S => ∃ (d : D) (k' : Nat), a = .d d ∧ S = Lib.bx is k' :: T ∧ VL (bnd deep) deep d) noX
  | 0, _, _, _, h => by omega
  | n + 1, deep, k, T, hn => by
    unfold F_u_law_value m_u_law_value
    walk_at "ev"
    refine okR_by (Lib.draw_ok is k 6 (by decide) T) fun a S hx => ?_
    obtain ⟨kd, hk, e1, e2⟩ := hx
    subst e1 e2
    walk_at "ev"
    try simp only [List.take_length, List.length_cons, List.take_succ_cons]
    have lf : ∀ q : Int, 0 ≤ q → ∃ d, (ixD (.lst lfs) (.int (q % 11))) = some d ∧ VL (bnd deep) deep d := fun q hq => by
      have r0 := Int.emod_nonneg q (show (11 : Int) ≠ 0 by decide)
      have r1 := Int.emod_lt_of_pos q (show (0 : Int) < 11 by decide)
      obtain ⟨j, hj⟩ := Int.eq_ofNat_of_zero_le r0
      have hl : j < lfs.length := by show j < 11; omega
      refine ⟨lfs[j], ?_, lfs_ok _ (List.getElem_mem hl)⟩
      rw [hj, ix_l, atI_n, List.getElem?_eq_getElem hl]
    refine ⟨fun a => ⟨fun b => ?_, fun b => ?_⟩, fun a => ?_⟩
    · clear a
      obtain ⟨dp, rfl⟩ : ∃ dp, deep = dp + 1 := ⟨deep - 1, by omega⟩
      refine lc_inv ?_
      walk_at "ev"
      refine okR_by (Lib.draw_ok is (k + 1) 4 (by decide) T) fun a S hx => ?_
      obtain ⟨m, hm, e1, e2⟩ := hx
      subst e1 e2
      walk_at "ev"
      refine ⟨⟨by omega, by omega⟩, lcD_inv (fun i acc S => ∃ k' : Nat, acc.length = i ∧ (∀ d ∈ acc, VL (bnd dp) dp d) ∧ S = Lib.bx is k' :: T) _ 0 [] _ ⟨_, rfl, by simp, rfl⟩ (fun i d acc S he hI => ?_) fun acc S hI => ?_⟩
      · obtain ⟨k', ha, hv, e2⟩ := hI
        subst e2
        rw [Nat.zero_add] at ha ⊢
        obtain ⟨hi, rfl⟩ := rangeD_get he
        walk_at "ev"
        have e1 : (((dp + 1 : Nat) : Int) - 1) = ((dp : Nat) : Int) := by omega
        rw [e1]
        refine okR_by (value_drawn is n dp k' T (by omega)) fun a S hx => ?_
        obtain ⟨d, k2, e3, e4, hd⟩ := hx
        subst e3 e4
        walk_at "ev"
        refine ⟨_, rfl, z_lt (by omega), _, by rw [List.length_append, ha]; rfl, fun q hq => ?_, rfl⟩
        rcases List.mem_append.mp hq with z | z
        · exact hv q z
        · rw [List.mem_singleton.mp z]; exact hd
      · obtain ⟨k', ha, hv, e2⟩ := hI
        subst e2
        rw [Nat.zero_add, rangeD_len] at ha
        walk_at "ev"
        try simp only [List.take_length, List.length_cons, List.take_succ_cons]
        exact ⟨_, _, rfl, rfl, vl_tup hv (by omega)⟩
    · refine ⟨z_le (by decide), okR_by (Lib.draw_ok is (k + 1) 900 (by decide) T) fun a S hx => ?_⟩
      obtain ⟨q, hq, e1, e2⟩ := hx
      subst e1 e2
      walk_at "ev"
      try simp only [List.take_length, List.length_cons, List.take_succ_cons]
      obtain ⟨d, e, hv⟩ := lf q hq.1
      rw [ix_l] at e
      unfold lfs at e
      rw [e]
      exact ⟨by omega, d, _, rfl, rfl, hv⟩
    · refine ⟨z_le (by decide), okR_by (Lib.draw_ok is (k + 1) 900 (by decide) T) fun a S hx => ?_⟩
      obtain ⟨q, hq, e1, e2⟩ := hx
      subst e1 e2
      walk_at "ev"
      try simp only [List.take_length, List.length_cons, List.take_succ_cons]
      obtain ⟨d, e, hv⟩ := lf q hq.1
      rw [ix_l] at e
      unfold lfs at e
      rw [e]
      exact ⟨by omega, d, _, rfl, rfl, hv⟩
theorem digits_ok (ns : List Int) : okP (F_u_law_digits [.frz (ns.map .int), .int 0, .int 63]) (fun d => ∃ is : List Int, d = .lst (is.map .int)) noXP := by
  unfold F_u_law_digits m_u_law_digits
  walk_at "ev"
  refine ⟨Nat.zero_le _, by decide, for_inv (fun i w S => ∃ is : List Int, is.length ≤ 1560 ∧ S = [.lst (is.map .int)] ∧ w = [some (.d (.frz (ns.map .int))), some (.d (.int 0)), some (.d (.int 63)), some (.l 0), none, none, none, none]) ⟨[], by decide, rfl, rfl⟩ (fun i d w S hd ⟨is, hz, e1, e2⟩ => ?_) fun w S ⟨is, hz, e1, e2⟩ => ?_⟩
  · subst e1 e2
    obtain ⟨hi, e⟩ := rangeD_get hd
    rw [Int.zero_add] at e
    subst e
    walk_at "ev"
    refine ⟨fun _ => ⟨_, rfl⟩, fun hl => okP_by (Lib.cell_ok ns i) fun d hx => ?_⟩
    obtain ⟨c, e⟩ := hx
    subst e
    walk_at "ev"
    refine ⟨fun _ => ⟨.inl ⟨by decide, by decide⟩, ?_⟩, fun _ => ?_⟩
    all_goals
      refine ⟨by decide, fun hc => ⟨by decide, ?_⟩, fun hc => ⟨?_, ?_, by decide, by decide, ?_⟩⟩
      · rw [List.length_map] at hl
        refine for_inv (fun j w S => ∃ (is : List Int) (c : Int), is.length ≤ 1500 + j ∧ S = [.lst (is.map .int)] ∧ w = [some (.d (.frz (ns.map .int))), some (.d (.int 0)), some (.d (.int 63)), some (.l 0), some (.d (.int i)), some (.d (.int c)), none, none]) ⟨is, _, by omega, rfl, rfl⟩ (fun j d w S hd ⟨is, c, hz, e1, e2⟩ => ?_) fun w S ⟨is, c, hz, e1, e2⟩ => ?_
        · subst e1 e2
          have hj := (rangeD_get hd).1
          have hj : j < 60 := hj
          walk_at "ev"
          refine ⟨fun hc => ⟨by decide, ?_, by decide, ?_⟩, fun _ => ⟨is, c, by omega, rfl, rfl⟩⟩
          · rw [List.length_map, sizeLine_eq]; omega
          · exact ⟨is ++ [c % 1000], c / 1000, by rw [List.length_append]; simp; omega, by simp, rfl⟩
        · subst e1 e2
          rw [rangeD_len] at hz
          have hz : is.length ≤ 1500 + 60 := hz
          walk_at "ev"
          first | exact ⟨is, by omega, rfl⟩ | exact ⟨is, by omega, rfl, rfl⟩
      · exact .inr ⟨by decide, by decide⟩
      · exact .inr ⟨by decide, by decide⟩
      · rw [List.length_map] at hl
        refine for_inv (fun j w S => ∃ (is : List Int) (c sd : Int), is.length ≤ 1500 + j ∧ S = [.lst (is.map .int)] ∧ w = [some (.d (.frz (ns.map .int))), some (.d (.int 0)), some (.d (.int 63)), some (.l 0), some (.d (.int i)), some (.d (.int c)), none, some (.d (.int sd))]) ⟨is, _, _, by omega, rfl, rfl⟩ (fun j d w S hd ⟨is, c, sd, hz, e1, e2⟩ => ?_) fun w S ⟨is, c, sd, hz, e1, e2⟩ => ?_
        · subst e1 e2
          obtain ⟨hj, e⟩ := rangeD_get hd
          have hj : j < 12 := hj
          subst e
          walk_at "ev"
          refine ⟨.inr ⟨by decide, by decide⟩, .inl ⟨by decide, by decide⟩, by decide, by decide, by decide, ?_, ?_⟩
          · rw [List.length_map, sizeLine_eq]; omega
          · exact ⟨is ++ [_], c, _, by rw [List.length_append]; simp; omega, by rw [List.map_append]; rfl, rfl⟩
        · subst e1 e2
          rw [rangeD_len] at hz
          have hz : is.length ≤ 1500 + 12 := hz
          walk_at "ev"
          first | exact ⟨is, by omega, rfl⟩ | exact ⟨is, by omega, rfl, rfl⟩
  · subst e1 e2
    walk_at "ev"
    exact ⟨is, rfl⟩
end Mi.k18

namespace Mi.k18
open PySem PySem.Spec PyProof.Rows L2 Mi Mi.P TL
local macro_rules | `(tactic| walk_at "ev") => `(tactic| try simp only [f3_D, f4_D, ls_D, repl_D, isi_nt, isi_ii', isi_si, isi_ti, isi_ss', isi_tstr, isi_ttu, isi_stu, is_it, is_st, is_tt', is_nb, wS_par3, wE_fmtZ, ok_fmtZ, int2_i, int2_b, okM_int2, okM_str, ok_oM, mtOk_sd, tB_s, okM_split, okM_part, okM_join, okM_join1, wE_joined, ok_joinD_nil, ok_joinD_cons, ok_fmt_i, ok_fmt_s, wE_fmt, wS_raise, wS_try, wS_par, wE_chain3, isi_is, isi_st, isi_it, isi_bt, isi_ibs, is_in, is_ib, is_sn, is_sb, is_tn, is_nn, is_bn, is_tt, is_ff, is_tf, is_ft, isn_tn, isn_nn, sl_s, ix_s, tuple_t, wS_seq, seqK_nx, seqK_rt, seqK_bk, seqK_ct, seqK_exc, loopK_nx, loopK_ct, loopK_bk, loopK_rt, loopK_exc, wE_yes, wS_nil, wS_ret, wS_retN, wS_expr, wS_if, wS_set, wS_brk, wS_cnt, wS_frz, wS_asg, wS_aug, wS_never, wS_for, wE_var, wE_c, wE_un, wE_bin, ok_ans, ok_o1, ok_o2, ok_ansT, okM_some, okM_none, okM_bind, okM_map, okM_ite, wE_tru, wE_mB, blW_bl, wE_andT, wE_orT, wE_notT, wE_and, wE_or, wE_not, wE_if, wE_chain, wE_nil, wE_cons, wE_fn, wE_tup, wE_lst, wE_new, ok_tup, ok_lst, ok_new, wE_sl, wE_noPart, wE_part, wE_mth, ok_append, ok_extend, wE_items, wE_rng1, wE_rng2, wE_zip, wE_callP, wE_callS, okP_runP, okR_runS, okR_ok, okR_exc, okR_bad, okP_ok, ok_gSet, ok_gSub, ok_gSeq, ok_gSeqL, ok_gAll_nil, ok_gAll_cons, vw_d, vw_l, okL_s, vws, pures, addD_i, addD_s, addD_l, addD_t, iaddD_i, subD_i, mulD_i, fdivD_i, modD_i, powD_i, negD_i, lt_i, le_i, gt_i, ge_i, eq_i, ne_i, eq_s, ne_s, eq_nl, ne_nl, truD_bl, truD_int, truD_lst, truD_tup, truD_str, truD_non, len_s, len_t, len_l, len_f, int_i, int_b, max2_i, min2_i, tuple_l, intOf_i, isi_ii, isi_bi, isi_tt, isi_ss, isi_ll, mtOk, cellOf, setItem, frzW, ix_t, ix_l, ix_f, sl_t, sl_l, atI_n, atI_0, atI_1, atI_2, atI_3, atI_4, atI_5, atI_6, atI_neg1, ixN_20, ixN_21, cutR, ent, forget, List.map_cons, List.map_nil, List.cons_append, List.nil_append, List.append_nil, List.length_cons, List.length_nil, List.replicate, List.getElem?_cons_zero, List.getElem?_cons_succ, List.getElem?_nil, List.set_cons_zero, List.set_cons_succ, List.set_nil, List.take_succ_cons, List.take_zero, List.take_nil, Option.bind_some, Option.bind_none, id, Nat.reduceAdd, Nat.reduceSub, Nat.reduceEqDiff, decide_eq_true_eq, decide_eq_false_iff_not, Bool.not_eq_true', Bool.not_eq_false', Bool.not_true, Bool.not_false, forall_eq', true_implies, false_implies, implies_true, and_true, true_and, and_self, reduceCtorEq, beq_self_eq_true, List.map_append, getLast?_of, List.isEmpty_nil, List.isEmpty_cons, Bool.false_eq_true, Bool.true_eq_false, forall_const, Nat.le_refl, eq_self, decide_true, decide_false, if_true, if_false, Int.not_lt, Int.not_le])
structure FV (is : List Int) (F : List W → List C → R W) : Prop where
  h : ∀ k T, okR (F [.l 0, .d (.int 3)] (Lib.bx is k :: T)) (fun a S => ∃ (d : D) (k' : Nat), a = .d d ∧ S = Lib.bx is k' :: T ∧ VL 619 3 d) noX
structure FP (F : List D → RP) : Prop where
  h : ∀ d, VL 619 3 d → okP (F [d]) (· = shD d) noXP
structure FE (F : List D → RP) : Prop where
  h : ∀ x : Str, x.length ≤ 4500 → okP (F [tell (tl x), tell (tl x)]) (· = .bl true) noXP
structure FT (F : List D → RP) : Prop where
  h : ∀ x : Str, x.length ≤ 4500 → okP (F [.str x]) (· = tell (tl x)) noXP
theorem fv8 (is : List Int) : ∃ F, F_u_law_value 8 = F ∧ FV is F := ⟨_, rfl, ⟨fun k T => value_drawn is 8 3 k T (by decide)⟩⟩
theorem fp8 : ∃ F, F_u_law_plain 8 = F ∧ FP F := ⟨_, rfl, ⟨fun d h => plain_ok 8 d h.1 (by have := h.2.1; omega) (by have := h.2.2; omega)⟩⟩
theorem fe24 : ∃ F, F_u_law_same 24 = F ∧ FE F := ⟨_, rfl, ⟨fun x h => same_told h⟩⟩
theorem ft : ∃ F, F_u_law_told = F ∧ FT F := ⟨_, rfl, ⟨fun x h => told_ok x h⟩⟩
theorem fr : ∃ F, F_u_law_read = F ∧ FT F := ⟨_, rfl, ⟨fun x h => read_law x h⟩⟩
/-- texts that are not long -/
def SS (n : Nat) (ds : List D) : Prop := ds.length = n ∧ ∀ d ∈ ds, ∃ s : Str, d = .str s ∧ s.length ≤ 2000
theorem ss_at {n : Nat} {ds : List D} {q : Int} (h : SS n ds) (h0 : 0 ≤ q) (h1 : q < n) : ∃ s : Str, atI ds q = some (.str s) ∧ s.length ≤ 2000 := by
  have hl := h.1
  have := atI_in (xs := ds) h0 (by omega)
  obtain ⟨s, e, hs⟩ := h.2 _ (List.getElem_mem (by omega : q.toNat < ds.length))
  exact ⟨s, by rw [this, e], hs⟩
theorem ss_app {n : Nat} {ds : List D} {s : Str} (h : SS n ds) (hs : s.length ≤ 2000) : SS (n + 1) (ds ++ [.str s]) := ⟨by rw [List.length_append, h.1]; rfl, fun d hd => by
  rcases List.mem_append.mp hd with z | z
  · exact h.2 d z
  · rw [List.mem_singleton.mp z]; exact ⟨s, rfl, hs⟩⟩
theorem ss_set {n i : Nat} {ds : List D} {s : Str} (h : SS n ds) (hs : s.length ≤ 2000) : SS n (ds.set i (.str s)) := ⟨by rw [List.length_set, h.1], fun d hd => by
  rcases List.mem_or_eq_of_mem_set hd with z | z
  · exact h.2 d z
  · rw [z]; exact ⟨s, rfl, hs⟩⟩
theorem cl_get {b c : C} {T : List C} : (b :: (T ++ [c]))[T.length + 1]? = some c := by simp
theorem cl_get2 {b c d : C} {T : List C} : (b :: (T ++ [c, d]))[T.length + 2]? = some d := by simp
theorem cl_g {c : C} {T : List C} : (T ++ [c])[T.length]? = some c := by simp
theorem cl_s {c d : C} {T : List C} : (T ++ [c]).set T.length d = T ++ [d] := by simp
theorem cut_len (x : Str) (lo hi : Option Int) : (cutS x lo hi).length ≤ x.length := by
  have e : tl (cutS x lo hi) = ((tl x).drop (HT.sIx x.length 0 lo)).take (HT.sIx x.length x.length hi - HT.sIx x.length 0 lo) := rfl
  rw [len_tl, e, List.length_take, List.length_drop, ← len_tl]
  omega
theorem mulS_D {x : Str} {n : Int} : mulSD (.str x) (.int n) = if 0 ≤ n ∧ n ≤ 1000 ∧ x.length ≤ 1000 ∧ (repS x n).length ≤ sizeLine then some (.str (repS x n)) else none := nrfl rfl
set_option maxHeartbeats 0 in
theorem F_law_true (ns : List Int) (h : ns.length ≤ 63) : F_law [.frz (ns.map D.int)] = .ok (.bl true) := by
  refine okP_iff.mp ?_
  obtain ⟨FPl, hFP, fp⟩ := fp8
  obtain ⟨FEq, hFE, fe⟩ := fe24
  obtain ⟨FTo, hFT, ft⟩ := ft
  obtain ⟨FRd, hFR, fr⟩ := fr
  unfold F_law m_law
  rw [hFP, hFE, hFT, hFR]
  simp only [okP_runP]
  refine ⟨rfl, ?_⟩
  refine wS_cut (fun w S => ∃ is : List Int, S = [Lib.bx is 0] ∧ w = [some (.d (.frz (ns.map .int))), some (.l 0), none, none, none, none, none, none, none]) ?_ ?_
  · walk_at "ev"
    refine okP_by (digits_ok ns) fun v ⟨is, e⟩ => ?_
    subst e
    walk_at "ev"
    exact ⟨z2, _, _, rfl, is, rfl, rfl⟩
  rintro w S ⟨is, e1, e2⟩
  subst e1 e2
  obtain ⟨FD, hFD, fd⟩ := fv8 is
  rw [hFD]
  refine wS_cut (fun w S => ∃ (k : Nat) (T : List C), S = Lib.bx is k :: T ∧ w = [some (.d (.frz (ns.map .int))), some (.l 0), none, none, none, none, none, none, none]) ?_ ?_
  rotate_left
  · rintro w S ⟨k, T, e1, e2⟩
    subst e1 e2
    unfold Lib.bx
    walk_at "ev"
  rw [wS_for]
  simp only [wE_rng1, wE_cons, wE_nil, wE_c]
  refine ⟨⟨by decide, by decide⟩, for_inv (fun i w S => ∃ (k : Nat) (T : List C), S = Lib.bx is k :: T ∧ w = [some (.d (.frz (ns.map .int))), some (.l 0), none, none, none, none, none, none, none]) ⟨0, [], rfl, rfl⟩ (fun i d w S hd hI => ?_) fun w S ⟨k, T, e1, e2⟩ => ⟨_, _, rfl, k, T, e1, e2⟩⟩
  obtain ⟨k, T, e1, e2⟩ := hI
  subst e1 e2
  obtain ⟨hi, rfl⟩ := rangeD_get hd
  clear hd
  rw [ok_gSet]
  generalize (0 : Int) + (i : Int) = i
  simp only [List.set_cons_zero, List.set_cons_succ]
  -- the text
  refine wS_cut (fun w S => ∃ (x : Str) (k : Nat), x.length ≤ 619 ∧ S = Lib.bx is k :: T ∧ w = [some (.d (.frz (ns.map .int))), some (.l 0), some (.d (.int i)), some (.d (.str x)), none, none, none, none, none]) ?_ ?_
  · walk_at "ev"
    refine okR_by (fd.h k T) fun a S hx => ?_
    obtain ⟨d, k', e1, e2, hv⟩ := hx
    subst e1 e2
    walk_at "ev"
    refine okP_by (fp.h d hv) fun v e => ?_
    subst e
    unfold shD
    exact ⟨_, _, rfl, _, k', by rw [txt_len]; exact hv.2.2, rfl, rfl⟩
  rintro w S ⟨x, k, hx, e1, e2⟩
  subst e1 e2
  -- the place
  refine wS_cut (fun w S => ∃ (a : Int) (k : Nat), S = Lib.bx is k :: T ∧ w = [some (.d (.frz (ns.map .int))), some (.l 0), some (.d (.int i)), some (.d (.str x)), some (.d (.int a)), none, none, none, none]) ?_ ?_
  · walk_at "ev"
    refine okR_by (Lib.draw_ok is k 900 (by decide) T) fun a S hx => ?_
    obtain ⟨q, hq, e1, e2⟩ := hx
    subst e1 e2
    walk_at "ev"
    exact ⟨by omega, _, _, rfl, _, _, rfl, rfl⟩
  rintro w S ⟨a, k, e1, e2⟩
  subst e1 e2
  -- the sign
  refine wS_cut (fun w S => ∃ (c : Nat) (k : Nat), S = Lib.bx is k :: T ∧ w = [some (.d (.frz (ns.map .int))), some (.l 0), some (.d (.int i)), some (.d (.str x)), some (.d (.int a)), some (.d (.str (chr1 c))), none, none, none]) ?_ ?_
  · walk_at "ev"
    refine okR_by (Lib.draw_ok is k 900 (by decide) T) fun a S hx => ?_
    obtain ⟨q, hq, e1, e2⟩ := hx
    subst e1 e2
    walk_at "ev"
    have sl : (Str.ofString "()\" TFN-0195\\n\nx~").cps.toList.length = 17 := by decide +kernel
    generalize (Str.ofString "()\" TFN-0195\\n\nx~") = y at *
    have r0 := Int.emod_nonneg q (show (17 : Int) ≠ 0 by decide)
    have r1 := Int.emod_lt_of_pos q (show (0 : Int) < 17 by decide)
    have := atI_in (xs := y.cps.toList) r0 (by omega)
    rw [this]
    walk_at "ev"
    exact ⟨by decide, _, _, rfl, _, _, rfl, rfl⟩
  rintro w S ⟨c, k, e1, e2⟩
  subst e1 e2
  have lc : (chr1 c).length = 1 := rfl
  -- the changed texts
  refine wS_cut (fun w S => ∃ (ds : List D), SS 5 ds ∧ S = Lib.bx is k :: (T ++ [.lst ds]) ∧ w = [some (.d (.frz (ns.map .int))), some (.l 0), some (.d (.int i)), some (.d (.str x)), some (.d (.int a)), some (.d (.str (chr1 c))), some (.l (T.length + 1)), none, none]) ?_ ?_
  · walk_at "ev"
    have a1 := cut_len x none (some a)
    have a2 := cut_len x (some (a + 1)) none
    have a3 := cut_len x (some a) none
    simp only [len_app, lc]
    refine ⟨z_le (by omega), z_le (by omega), z_le (by omega), z_le (by omega), z_le (by omega), z_le (by omega), z_le (by decide), _, _, rfl, _, ⟨rfl, ?_⟩, rfl, rfl⟩
    intro d hd
    simp only [List.mem_cons, List.not_mem_nil, or_false] at hd
    rcases hd with z | z | z | z | z <;> subst z <;> refine ⟨_, rfl, ?_⟩ <;> (try simp only [len_app, lc]) <;> omega
  rintro w S ⟨ds, hds, e1, e2⟩
  subst e1 e2
  -- the others
  refine wS_cut (fun w S => ∃ (gs : List D), SS 14 gs ∧ S = Lib.bx is k :: (T ++ [.lst ds]) ∧ w = [some (.d (.frz (ns.map .int))), some (.l 0), some (.d (.int i)), some (.d (.str x)), some (.d (.int a)), some (.d (.str (chr1 c))), some (.l (T.length + 1)), some (.d (.lst gs)), none]) ?_ ?_
  · walk_at "ev"
    simp only [mulS_D]
    walk_at "ev"
    have a1 : (Str.ofString "1").length = 1 := by decide +kernel
    have a2 : (Str.ofString "9").length = 1 := by decide +kernel
    have a3 : (Str.ofString "(").length = 1 := by decide +kernel
    have a4 : (Str.ofString ")").length = 1 := by decide +kernel
    have a5 : (Str.ofString "-").length = 1 := by decide +kernel
    have b1 : (repS (Str.ofString "1") 21).length = 21 := by decide +kernel
    have b2 : (repS (Str.ofString "9") 21).length = 21 := by decide +kernel
    have b3 : (repS (Str.ofString "(") 21).length = 21 := by decide +kernel
    have b4 : (repS (Str.ofString ")") 21).length = 21 := by decide +kernel
    have c1 : (repS (Str.ofString "1") 20).length = 20 := by decide +kernel
    have c2 : (repS (Str.ofString "9") 20).length = 20 := by decide +kernel
    have c3 : (repS (Str.ofString "(") 20).length = 20 := by decide +kernel
    have c4 : (repS (Str.ofString ")") 20).length = 20 := by decide +kernel
    have d1 : (Str.ofString "(1  2)").length ≤ 9 := by decide +kernel
    have d2 : (Str.ofString "(1 )").length ≤ 9 := by decide +kernel
    have d3 : (Str.ofString "( 1)").length ≤ 9 := by decide +kernel
    have d4 : (Str.ofString "01").length ≤ 9 := by decide +kernel
    have d5 : (Str.ofString "-0").length ≤ 9 := by decide +kernel
    have d6 : (Str.ofString "--1").length ≤ 9 := by decide +kernel
    have d7 : (Str.ofString "T T").length ≤ 9 := by decide +kernel
    have d8 : (Str.ofString "\"a").length ≤ 9 := by decide +kernel
    generalize Str.ofString "(1  2)" = s1 at *
    generalize Str.ofString "(1 )" = s2 at *
    generalize Str.ofString "( 1)" = s3 at *
    generalize Str.ofString "01" = s4 at *
    generalize Str.ofString "-0" = s5 at *
    generalize Str.ofString "--1" = s6 at *
    generalize Str.ofString "T T" = s7 at *
    generalize Str.ofString "\"a" = s8 at *
    generalize repS (Str.ofString "1") 21 = r1 at *
    generalize repS (Str.ofString "9") 21 = r2 at *
    generalize repS (Str.ofString "(") 21 = r3 at *
    generalize repS (Str.ofString ")") 21 = r4 at *
    generalize repS (Str.ofString "1") 20 = r5 at *
    generalize repS (Str.ofString "9") 20 = r6 at *
    generalize repS (Str.ofString "(") 20 = r7 at *
    generalize repS (Str.ofString ")") 20 = r8 at *
    generalize Str.ofString "-" = r9 at *
    generalize Str.ofString "1" = y1 at *
    generalize Str.ofString "9" = y2 at *
    generalize Str.ofString "(" = y3 at *
    generalize Str.ofString ")" = y4 at *
    have g : ∀ s1 s2 : Str, (s1 ++ s2).length = s1.length + s2.length := len_app
    have zz : ∀ n, n ≤ 100 → n ≤ sizeLine := fun n h => z_le (by omega)
    refine ⟨⟨by omega, by omega, by omega, zz _ (by omega)⟩, ⟨by omega, by omega, by omega, zz _ (by omega)⟩, zz _ (by omega), ⟨by omega, by omega, by omega, zz _ (by omega)⟩, ⟨by omega, by omega, by omega, zz _ (by omega)⟩, zz _ (by omega), ⟨by omega, by omega, by omega, zz _ (by omega)⟩, ⟨by omega, by omega, by omega, zz _ (by omega)⟩, zz _ (by omega), ⟨by omega, by omega, by omega, zz _ (by omega)⟩, ⟨by omega, by omega, by omega, zz _ (by omega)⟩, zz _ (by omega), zz _ (by omega), _, _, rfl, _, ⟨rfl, ?_⟩, rfl, rfl⟩
    intro d hd
    simp only [List.mem_cons, List.not_mem_nil, or_false] at hd
    rcases hd with z | z | z | z | z | z | z | z | z | z | z | z | z | z <;> subst z <;> refine ⟨_, rfl, ?_⟩ <;> (try rw [len_app]) <;> omega
  rintro w S ⟨gs, hgs, e1, e2⟩
  subst e1 e2
  -- one of the others behind the changed ones
  refine wS_cut (fun w S => ∃ (ds : List D) (T : List C) (k : Nat), SS 6 ds ∧ S = Lib.bx is k :: (T ++ [.lst ds]) ∧ w = [some (.d (.frz (ns.map .int))), some (.l 0), some (.d (.int i)), some (.d (.str x)), some (.d (.int a)), some (.d (.str (chr1 c))), some (.l (T.length + 1)), some (.d (.lst gs)), none]) ?_ ?_
  · unfold mNewCat
    walk_at "ev"
    refine okR_by (Lib.draw_ok is k 900 (by decide) (T ++ [C.lst ds])) fun a S hx => ?_
    obtain ⟨q, hq, e1, e2⟩ := hx
    subst e1 e2
    walk_at "ev"
    have r0 := Int.emod_nonneg q (show (8 : Int) ≠ 0 by decide)
    have r1 := Int.emod_lt_of_pos q (show (0 : Int) < 8 by decide)
    obtain ⟨s, es, hs⟩ := ss_at (q := 4 + q % 8) hgs (by omega) (by omega)
    rw [es]
    walk_at "ev"
    unfold catO
    simp only [vw_l, vw_d, cl_get, okL_s, List.length_cons, List.length_append, List.length_nil, hds.1]
    rw [if_pos (z_le (by decide))]
    walk_at "ev"
    refine ⟨by decide, z_le (by decide), _, _, rfl, ds ++ [.str s], T ++ [.lst ds], k + 1, ss_app hds hs, ?_, ?_⟩
    · simp
    · simp
  clear hds ds T k
  rintro w S ⟨ds, T, k, hds, e1, e2⟩
  subst e1 e2
  refine wS_cut (fun w S => ∃ (ds : List D) (k : Nat), SS 6 ds ∧ S = Lib.bx is k :: (T ++ [.lst ds]) ∧ w = [some (.d (.frz (ns.map .int))), some (.l 0), some (.d (.int i)), some (.d (.str x)), some (.d (.int a)), some (.d (.str (chr1 c))), some (.l (T.length + 1)), some (.d (.lst gs)), none]) ?_ ?_
  · walk_at "ev"
    refine ⟨fun _ => ?_, fun _ => ⟨_, _, rfl, ds, k, hds, rfl, rfl⟩⟩
    refine okR_by (Lib.draw_ok is k 900 (by decide) (T ++ [C.lst ds])) fun a S hx => ?_
    obtain ⟨q, hq, e1, e2⟩ := hx
    subst e1 e2
    walk_at "ev"
    have r0 := Int.emod_nonneg q (show (14 : Int) ≠ 0 by decide)
    have r1 := Int.emod_lt_of_pos q (show (0 : Int) < 14 by decide)
    obtain ⟨s, es, hs⟩ := ss_at (q := q % 14) hgs (by omega) (by omega)
    rw [es]
    walk_at "ev"
    have i5 : ixN ds.length 5 = some 5 := by rw [hds.1]; rfl
    simp only [cl_g, i5]
    walk_at "ev"
    refine ⟨by decide, ?_⟩
    rw [cl_s]
    exact ⟨_, _, rfl, _, _, ss_set hds hs, rfl, rfl⟩
  clear hds ds k
  rintro w S ⟨ds, k, hds, e1, e2⟩
  subst e1 e2
  refine wS_cut (fun w S => ∃ (T : List C), S = Lib.bx is k :: T ∧ w = [some (.d (.frz (ns.map .int))), some (.l 0), some (.d (.int i)), some (.d (.str x)), some (.d (.int a)), some (.d (.str (chr1 c))), some (.d (.lst ds)), some (.d (.lst gs)), none]) ?_ ?_
  · walk_at "ev"
    simp only [cl_g, cl_s]
    walk_at "ev"
    exact ⟨_, _, rfl, _, rfl, rfl⟩
  rintro w S ⟨T, e1, e2⟩
  subst e1 e2
  walk_at "ev"
  refine okR_by (Lib.draw_ok is k 6 (by decide) T) fun a S hx => ?_
  obtain ⟨q, hq, e1, e2⟩ := hx
  subst e1 e2
  walk_at "ev"
  obtain ⟨s, es, hs⟩ := ss_at (q := q) hds (by omega) (by omega)
  rw [es]
  walk_at "ev"
  refine okP_by (fr.h s (by omega)) fun v e => ?_
  subst e
  walk_at "ev"
  refine okP_by (ft.h s (by omega)) fun v e => ?_
  subst e
  refine okP_by (fe.h s (by omega)) fun v e => ?_
  subst e
  walk_at "ev"
  exact ⟨_, _, rfl⟩
end Mi.k18

open PySem PySem.W PyProof.Rows
set_option maxHeartbeats 0 in
theorem PySem.Challenge.cw_bothdays_k18_plain_wrong_texts_holds : PySem.Challenge.rw_bothdays_k18_plain_wrong_texts.Holds := by
  w_on; o_law; k_head; (case hw => w_witness2)
  k_fill
  refine L2.walk_of (l := PySem.Challenge.rw_bothdays_k18_plain_wrong_texts) (n := 63) (k := 55) (x := "script") (CX := fun w => L2N.CX PySem.Challenge.pw_bothdays_k18_plain_wrong_texts w) (sp := fun w => Mi.spL _ Mi.k18.F_law) rfl (by decide) rfl ⟨rfl, by decide, by decide⟩ (fun w h Y => PySem.W.kIn_of Y) ?F
    (fun w H a ns hl _ hS => ⟨fun _ => False, [.frz (ns.map Mi.D.int)], fun _ z => z.elim, Mi.script_rep hS, Mi.k18.F_law_true ns hl, fun _ => rfl⟩) (fun w H s e s' h => Mi.cx_no h)
  case F =>
    intro w mg fa h KX G hmg
    refine' Mi.k18.all_mk KX G hmg ?a_is_clean ?l_is_clean ?c_is_clean ?kp_is_clean ?a_u_members ?l_u_members ?c_u_members ?kp_u_members ?a_u_quote ?l_u_quote ?c_u_quote ?kp_u_quote ?a_u_look ?l_u_look ?c_u_look ?kp_u_look ?a_u_quoted ?l_u_quoted ?c_u_quoted ?kp_u_quoted ?a_u_integer ?l_u_integer ?c_u_integer ?kp_u_integer ?a_u_value ?l_u_value ?c_u_value ?kp_u_value ?a_read_plain ?l_read_plain ?c_read_plain ?kp_read_plain ?a_u_law_cell ?l_u_law_cell ?c_u_law_cell ?kp_u_law_cell ?a_u_law_digits ?l_u_law_digits ?c_u_law_digits ?kp_u_law_digits ?a_u_law_draw ?l_u_law_draw ?c_u_law_draw ?kp_u_law_draw ?a_u_law_same ?l_u_law_same ?c_u_law_same ?kp_u_law_same ?a_u_law_plain ?l_u_law_plain ?c_u_law_plain ?kp_u_law_plain ?a_u_law_text_at ?l_u_law_text_at ?c_u_law_text_at ?kp_u_law_text_at ?a_u_law_digits_at ?l_u_law_digits_at ?c_u_law_digits_at ?kp_u_law_digits_at ?a_u_law_value_at ?l_u_law_value_at ?c_u_law_value_at ?kp_u_law_value_at ?a_u_law_read ?l_u_law_read ?c_u_law_read ?kp_u_law_read ?a_u_law_told ?l_u_law_told ?c_u_law_told ?kp_u_law_told ?a_u_law_value ?l_u_law_value ?c_u_law_value ?kp_u_law_value ?a_law ?l_law ?c_law ?kp_law ?z_ValueError ?z_bool ?z_int ?z_isinstance ?z_len ?z_ord ?z_range ?z_str ?z_tuple ?e_MOST_DIGITS ?e_MOST_DEEP ?aC_LawError ?aC_BadText ?aC_BadPlain ?bg_LawError ?bt_LawError ?br_LawError ?bi_LawError ?xL_BadPlain ?sa_BadPlain ?ga_BadPlain ?gg_BadPlain ?nf_BadPlain_place ?iC_BadPlain ?tI_BadPlain ?lI_BadPlain ?cI_BadPlain ?kI_BadPlain ?kC_BadPlain ?eC_BadPlain ?tC_BadPlain ?hC_BadPlain ?iS_BadPlain ?eS_BadPlain ?tS_BadPlain ?u_BadPlain_BadPlain ?sp_oc ?tk_oc ?qc_BadText ?qt_BadText ?qc_LawError ?qt_LawError ?cl_BadPlain ?cc_BadPlain ?mo_BadPlain ?sb_BadPlain_BadText ?ne_BadPlain_BadText ?sb_BadPlain_LawError ?sb_BadPlain_ValueError
    (case a_is_clean => k_is); (case l_is_clean => k_is); (case c_is_clean => k_is); (case kp_is_clean => k_is); (case a_u_members => k_is); (case l_u_members => k_is); (case c_u_members => k_is); (case kp_u_members => k_is); (case a_u_quote => k_is); (case l_u_quote => k_is); (case c_u_quote => k_is); (case kp_u_quote => k_is); (case a_u_look => k_is); (case l_u_look => k_is); (case c_u_look => k_is); (case kp_u_look => k_is); (case a_u_quoted => k_is); (case l_u_quoted => k_is); (case c_u_quoted => k_is); (case kp_u_quoted => k_is); (case a_u_integer => k_is); (case l_u_integer => k_is); (case c_u_integer => k_is); (case kp_u_integer => k_is); (case a_u_value => k_is); (case l_u_value => k_is); (case c_u_value => k_is); (case kp_u_value => k_is); (case a_read_plain => k_is); (case l_read_plain => k_is); (case c_read_plain => k_is); (case kp_read_plain => k_is); (case a_u_law_cell => k_is); (case l_u_law_cell => k_is); (case c_u_law_cell => k_is); (case kp_u_law_cell => k_is); (case a_u_law_digits => k_is); (case l_u_law_digits => k_is); (case c_u_law_digits => k_is); (case kp_u_law_digits => k_is); (case a_u_law_draw => k_is); (case l_u_law_draw => k_is); (case c_u_law_draw => k_is); (case kp_u_law_draw => k_is); (case a_u_law_same => k_is); (case l_u_law_same => k_is); (case c_u_law_same => k_is); (case kp_u_law_same => k_is); (case a_u_law_plain => k_is); (case l_u_law_plain => k_is); (case c_u_law_plain => k_is); (case kp_u_law_plain => k_is); (case a_u_law_text_at => k_is); (case l_u_law_text_at => k_is); (case c_u_law_text_at => k_is); (case kp_u_law_text_at => k_is); (case a_u_law_digits_at => k_is); (case l_u_law_digits_at => k_is); (case c_u_law_digits_at => k_is); (case kp_u_law_digits_at => k_is); (case a_u_law_value_at => k_is); (case l_u_law_value_at => k_is); (case c_u_law_value_at => k_is); (case kp_u_law_value_at => k_is); (case a_u_law_read => k_is); (case l_u_law_read => k_is); (case c_u_law_read => k_is); (case kp_u_law_read => k_is); (case a_u_law_told => k_is); (case l_u_law_told => k_is); (case c_u_law_told => k_is); (case kp_u_law_told => k_is); (case a_u_law_value => k_is); (case l_u_law_value => k_is); (case c_u_law_value => k_is); (case kp_u_law_value => k_is); (case a_law => k_is); (case l_law => k_is); (case c_law => k_is); (case kp_law => k_is); (case z_ValueError => k_is); (case z_bool => k_is); (case z_int => k_is); (case z_isinstance => k_is); (case z_len => k_is); (case z_ord => k_is); (case z_range => k_is); (case z_str => k_is); (case z_tuple => k_is); (case e_MOST_DIGITS => k_is); (case e_MOST_DEEP => k_is); (case aC_LawError => k_is); (case aC_BadText => k_is); (case aC_BadPlain => k_is); (case bg_LawError => k_is); (case bt_LawError => k_is); (case br_LawError => k_is); (case bi_LawError => k_is); (case xL_BadPlain => k_is); (case sa_BadPlain => k_is); (case ga_BadPlain => k_is); (case gg_BadPlain => k_is); (case nf_BadPlain_place => k_is); (case iC_BadPlain => k_is); (case tI_BadPlain => k_is); (case lI_BadPlain => k_is); (case cI_BadPlain => k_is); (case kI_BadPlain => k_is); (case kC_BadPlain => k_is); (case eC_BadPlain => k_is); (case tC_BadPlain => k_is); (case hC_BadPlain => k_is); (case iS_BadPlain => k_is); (case eS_BadPlain => k_is); (case tS_BadPlain => k_is); (case u_BadPlain_BadPlain => k_is); (case sp_oc => k_is); (case tk_oc => k_is); (case qc_BadText => first | k_is | rfl | decide +kernel); (case qt_BadText => k_is); (case qc_LawError => first | k_is | rfl | decide +kernel); (case qt_LawError => k_is); (case cl_BadPlain => first | k_is | rfl | decide +kernel); (case cc_BadPlain => k_is); (case mo_BadPlain => k_is); (case sb_BadPlain_BadText => k_is); (case ne_BadPlain_BadText => first | rfl | decide +kernel); (case sb_BadPlain_LawError => k_is); (case sb_BadPlain_ValueError => k_is)
