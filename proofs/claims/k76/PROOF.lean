import PyProof.Rows.All
import HandS.ForMost
import HandS.Star
import HandS.Walk
import HandS.TupAny
import HandS.Zip
import HandS.Wide
import HandS.Conv
import HandS.IsInst
import HandS.Strs
import HandS.GenList
import KE.GoesMore
import KE.GoesEnum
import HandS.Style
import HandS.SetFor
import HandS.SortInts
import HandS.RaiseMore
import HandS.Words
import HandS.Defaults
import PySem.Challenge.RW_armrises_k76_whole_rises_marks_and_marke
import Wide.All
import OpenK.AllK
import Wide.FinOn
import KE.KStateDown
import Lean
import HandS.WordsExc
import HandS.Head0
import HandS.Head1
import HandS.Head2
import HandS.HeadEnd
import HandS.HeadHook1
import HandS.HeadHook2
-- text T0
set_option Elab.async false
set_option linter.all false
set_option maxRecDepth 100000
set_option maxHeartbeats 4000000
namespace T
open PySem L2

inductive D where
  | non | bl (b : Bool) | int (i : Int) | str (x : Str)
  | tup (ds : List D) | lst (ds : List D) | dct (kvs : List (D × D))
  | ty (n : String) | fn (i : Nat) | frz (ds : List D)
  deriving Inhabited

structure Tab where
  K : PySem.W.Frag
  w : World
  fn : Nat → Addr

def Sub (H H' : Hp) : Prop := ∀ a o, H a = some o → H' a = some o
theorem Sub.refl (H : Hp) : Sub H H := fun _ _ h => h
theorem Sub.trans {H1 H2 H3 : Hp} (a : Sub H1 H2) (b : Sub H2 H3) : Sub H1 H3 := fun x o h => b x o (a x o h)

theorem Rd.mono {H H' : Hp} {a : Addr} {u : HO} (s : Sub H H') (h : Rd H a u) : Rd H' a u := by
  rcases h with h | ⟨o, h⟩
  · exact .inl (s _ _ h)
  · exact .inr ⟨o, s _ _ h⟩
theorem SqL.mono {K : PySem.W.Frag} {H H' : Hp} {a : Addr} {xs : List V} (s : Sub H H') (h : SqL K H a xs) : SqL K H' a xs := by
  rcases h with h | h
  · exact .inl (Rd.mono s h)
  · exact .inr h
theorem SqT.mono {K : PySem.W.Frag} {H H' : Hp} {a : Addr} {xs : List V} (s : Sub H H') (h : SqT K H a xs) : SqT K H' a xs := by
  rcases h with h | h
  · exact .inl (Rd.mono s h)
  · exact .inr h

mutual
def Rep (G : Tab) (H : Hp) : D → V → Prop
  | .non, v => v = .non
  | .bl b, v => v = .bl b
  | .int i, v => v = .int i
  | .str x, v => v = .str x
  | .ty n, v => v = .ty n
  | .fn i, v => v = .ref (G.fn i)
  | .tup ds, v => ∃ a xs, v = .ref a ∧ SqT G.K H a xs ∧ RepL G H ds xs
  | .lst ds, v => ∃ a xs, v = .ref a ∧ H a = some (.lst xs) ∧ RepL G H ds xs
  | .frz ds, v => ∃ a xs, v = .ref a ∧ SqL G.K H a xs ∧ RepL G H ds xs
  | .dct kvs, v => kvs = [] ∧ ∃ a, v = .ref a ∧ H a = some (.dK [])
def RepL (G : Tab) (H : Hp) : List D → List V → Prop
  | [], xs => xs = []
  | d :: ds, xs => ∃ v vs, xs = v :: vs ∧ Rep G H d v ∧ RepL G H ds vs
end

mutual
theorem Rep.mono {G : Tab} {H H' : Hp} (s : Sub H H') : ∀ (d : D) (v : V), Rep G H d v → Rep G H' d v
  | .non, _, h => h
  | .bl _, _, h => h
  | .int _, _, h => h
  | .str _, _, h => h
  | .ty _, _, h => h
  | .fn _, _, h => h
  | .tup ds, v, h => by
    unfold Rep at h ⊢
    obtain ⟨a, xs, e, q, r⟩ := h
    exact ⟨a, xs, e, SqT.mono s q, RepL.mono s ds xs r⟩
  | .lst ds, v, h => by
    unfold Rep at h ⊢
    obtain ⟨a, xs, e, q, r⟩ := h
    exact ⟨a, xs, e, s _ _ q, RepL.mono s ds xs r⟩
  | .frz ds, v, h => by
    unfold Rep at h ⊢
    obtain ⟨a, xs, e, q, r⟩ := h
    exact ⟨a, xs, e, SqL.mono s q, RepL.mono s ds xs r⟩
  | .dct kvs, v, h => by
    unfold Rep at h ⊢
    obtain ⟨e, a, e2, q⟩ := h
    exact ⟨e, a, e2, s _ _ q⟩
theorem RepL.mono {G : Tab} {H H' : Hp} (s : Sub H H') : ∀ (ds : List D) (xs : List V), RepL G H ds xs → RepL G H' ds xs
  | [], _, h => h
  | d :: ds, xs, h => by
    unfold RepL at h ⊢
    obtain ⟨v, vs, e, r, q⟩ := h
    exact ⟨v, vs, e, Rep.mono s d v r, RepL.mono s ds vs q⟩
end
theorem RepL.length {G : Tab} {H : Hp} : ∀ {ds : List D} {xs : List V}, RepL G H ds xs → xs.length = ds.length
  | [], xs, h => by unfold RepL at h; subst h; rfl
  | d :: ds, xs, h => by
    unfold RepL at h
    obtain ⟨v, vs, e, _, q⟩ := h
    subst e
    show vs.length + 1 = ds.length + 1
    rw [RepL.length q]
theorem RepL.get {G : Tab} {H : Hp} : ∀ {ds : List D} {xs : List V} {i : Nat} {d : D}, RepL G H ds xs → ds[i]? = some d → ∃ v, xs[i]? = some v ∧ Rep G H d v
  | [], xs, i, d, h, e => by rw [List.getElem?_nil] at e; cases e
  | d0 :: ds, xs, i, d, h, e => by
    unfold RepL at h
    obtain ⟨v, vs, e1, r, q⟩ := h
    subst e1
    cases i with
    | zero => simp at e; subst e; exact ⟨v, rfl, r⟩
    | succ i =>
      obtain ⟨w, a, b⟩ := RepL.get (i := i) (d := d) q (by simpa using e)
      exact ⟨w, by simpa using a, b⟩
theorem RepL.get' {G : Tab} {H : Hp} {ds : List D} {xs : List V} {i : Nat} {v : V} (h : RepL G H ds xs) (e : xs[i]? = some v) : ∃ d, ds[i]? = some d ∧ Rep G H d v := by
  have hl := h.length
  have hi : i < xs.length := (List.getElem?_eq_some_iff.mp e).1
  have hi2 : i < ds.length := by omega
  obtain ⟨w, a, b⟩ := RepL.get (i := i) (d := ds[i]) h (List.getElem?_eq_getElem hi2)
  rw [a] at e; cases e
  exact ⟨ds[i], List.getElem?_eq_getElem hi2, b⟩
theorem RepL.append {G : Tab} {H : Hp} : ∀ {ds es : List D} {xs ys : List V}, RepL G H ds xs → RepL G H es ys → RepL G H (ds ++ es) (xs ++ ys)
  | [], es, xs, ys, h, k => by unfold RepL at h; subst h; exact k
  | d :: ds, es, xs, ys, h, k => by
    unfold RepL at h
    obtain ⟨v, vs, e, r, q⟩ := h
    subst e
    show RepL G H (d :: (ds ++ es)) (v :: (vs ++ ys))
    unfold RepL
    exact ⟨v, _, rfl, r, RepL.append q k⟩
theorem RepL.nil {G : Tab} {H : Hp} : RepL G H [] [] := by unfold RepL; rfl
theorem RepL.cons {G : Tab} {H : Hp} {d : D} {ds : List D} {v : V} {vs : List V} (r : Rep G H d v) (q : RepL G H ds vs) : RepL G H (d :: ds) (v :: vs) := by
  unfold RepL; exact ⟨v, vs, rfl, r, q⟩
theorem RepL.one {G : Tab} {H : Hp} {d : D} {v : V} (r : Rep G H d v) : RepL G H [d] [v] := .cons r .nil

/-! slots -/
inductive Sl where
  | un | fz (d : D) | own (d : D) | io (d : D)
  deriving Inhabited
abbrev Gam := List Sl
def OwnRep (G : Tab) (HF H : Hp) : D → Addr → Prop
  | .lst ds, a => ∃ xs, H a = some (.lst xs) ∧ HF a = none ∧ RepL G HF ds xs
  | _, _ => False
def SlOk (G : Tab) (HF H : Hp) (o : Option V) : Sl → Prop
  | .un => True
  | .fz d => ∃ v, o = some v ∧ Rep G HF d v
  | .own d => ∃ a, o = some (.ref a) ∧ OwnRep G HF H d a
  | .io d => ∃ a, o = some (.ref a) ∧ OwnRep G HF H d a
def Sl.owns : Sl → Bool
  | .own _ => true | .io _ => true | _ => false
def Sl.isIo : Sl → Bool
  | .io _ => true | _ => false
def OwnAt (σ : St) (γ : Gam) (i : Nat) (a : Addr) : Prop := (∃ s, γ[i]? = some s ∧ s.owns = true) ∧ σ[i]? = some (some (.ref a))

structure Ok (G : Tab) (σ : St) (H HF : Hp) (γ : Gam) : Prop where
  sub : Sub HF H
  len : σ.length = γ.length
  sl : ∀ (i : Nat) s, γ[i]? = some s → SlOk G HF H (σ[i]?.join) s
  dis : ∀ i j a, OwnAt σ γ i a → OwnAt σ γ j a → i = j

structure Stp (σ : St) (γ : Gam) (H HF : Hp) (σ' : St) (γ' : Gam) (H' HF' : Hp) : Prop where
  mono : Sub HF HF'
  frame : ∀ b, H b ≠ none → (∀ i, ¬ OwnAt σ γ i b) → H' b = H b ∧ HF' b = HF b
  own : ∀ j b, OwnAt σ' γ' j b → (∃ i, OwnAt σ γ i b) ∨ H b = none
  io : ∀ (i : Nat) s, γ[i]? = some s → s.isIo = true → (∃ s', γ'[i]? = some s' ∧ s'.isIo = true) ∧ σ'[i]? = σ[i]?

theorem Stp.refl {σ : St} {γ : Gam} {H HF : Hp} : Stp σ γ H HF σ γ H HF :=
  ⟨Sub.refl _, fun _ _ _ => ⟨rfl, rfl⟩, fun j b h => .inl ⟨j, h⟩, fun i s e h => ⟨⟨s, e, h⟩, rfl⟩⟩
theorem Stp.trans {σ σ1 σ2 : St} {γ γ1 γ2 : Gam} {H HF H1 HF1 H2 HF2 : Hp} (a : Stp σ γ H HF σ1 γ1 H1 HF1) (b : Stp σ1 γ1 H1 HF1 σ2 γ2 H2 HF2) : Stp σ γ H HF σ2 γ2 H2 HF2 where
  mono := a.mono.trans b.mono
  frame := fun c h n => by
    obtain ⟨e1, e2⟩ := a.frame c h n
    have n1 : ∀ i, ¬ OwnAt σ1 γ1 i c := fun i q => by
      rcases a.own i c q with ⟨j, q⟩ | q
      · exact n j q
      · exact h q
    obtain ⟨f1, f2⟩ := b.frame c (by rw [e1]; exact h) n1
    exact ⟨f1.trans e1, f2.trans e2⟩
  own := fun j c q => by
    rcases b.own j c q with ⟨i, q⟩ | q
    · exact a.own i c q
    · by_cases hn : ∃ i, OwnAt σ γ i c
      · exact .inl hn
      · by_cases hz : H c = none
        · exact .inr hz
        · obtain ⟨e1, _⟩ := a.frame c hz fun i z => hn ⟨i, z⟩
          rw [e1] at q
          exact absurd q hz
  io := fun i s e h => by
    obtain ⟨⟨s', e', h'⟩, q⟩ := a.io i s e h
    obtain ⟨z, q'⟩ := b.io i s' e' h'
    exact ⟨z, q'.trans q⟩

/-! results -/
inductive R where
  | fz (d : D) | own (d : D)
  deriving Inhabited
structure Exn where
  cls : Nat
  pay : List D
  deriving Inhabited
inductive Out (α : Type) where
  | ok (a : α) (γ : Gam)
  | er (x : Exn) (γ : Gam)
  | bad
/-- how an exception lies -/
def XRep (G : Tab) (x : Exn) (cls : Value) (d : Option Addr) (H HF : Hp) : Prop := cls = .ref (G.fn x.cls)

/-- a result, from a start to an end -/
def ROk2 (G : Tab) (σ : L2.St) (γ : Gam) (H : Hp) (σ' : L2.St) (γ' : Gam) (H' HF' : Hp) : R → V → Prop
  | .fz d, v => Rep G HF' d v
  | .own d, v => ∃ a, v = .ref a ∧ OwnRep G HF' H' d a ∧ (∀ j, ¬ OwnAt σ' γ' j a) ∧ (H a = none ∨ ∃ i, OwnAt σ γ i a)
abbrev ROk (G : Tab) (σ : L2.St) (γ : Gam) (H : Hp) (γ' : Gam) (H' HF' : Hp) : R → V → Prop := ROk2 G σ γ H σ γ' H' HF'

abbrev Wt := Value → Option Addr → L2.St → Hp → Prop
def Out.bind {α β : Type} (o : Out α) (f : α → Gam → Out β) : Out β := match o with
  | .ok a γ => f a γ
  | .er x γ => .er x γ
  | .bad => .bad
/-- how what is told lies in the heap: the slots, the start, the end -/
abbrev RelK (α β : Type) := L2.St → Gam → Hp → Gam → Hp → Hp → α → β → Prop
def post {α β : Type} (rel : RelK α β) (G : Tab) (W : Wt) (σ : L2.St) (γ : Gam) (H HF : Hp) (Q : β → Hp → Prop) : Out α → Prop
  | .ok a γ' => ∀ b H' HF', Ok G σ H' HF' γ' → Stp σ γ H HF σ γ' H' HF' → rel σ γ H γ' H' HF' a b → Q b H'
  | .er x γ' => ∀ cls d H' HF', Ok G σ H' HF' γ' → Stp σ γ H HF σ γ' H' HF' → XRep G x cls d H' HF' → W cls d σ H'
  | .bad => False
def tM {α β : Type} (rel : RelK α β) (G : Tab) (W : Wt) (m : Gam → Out α) : L2.St → Hp → (β → Hp → Prop) → Prop := fun σ H Q => ∃ HF γ, Ok G σ H HF γ ∧ post rel G W σ γ H HF Q (m γ)
def rE (G : Tab) : RelK R V := fun σ γ H γ' H' HF' r v => ROk G σ γ H γ' H' HF' r v
abbrev tE (G : Tab) (W : Wt) (m : Gam → Out R) : TE := tM (rE G) G W m

/-- an operand: a frozen value, or a slot as it stands -/
inductive Ar where
  | d (d : D) | sl (i : Nat)
  deriving Inhabited
def ArOk (G : Tab) (σ : L2.St) (HF : Hp) : Ar → V → Prop
  | .d d, v => Rep G HF d v
  | .sl i, v => σ[i]? = some (some v)
def rO (G : Tab) : RelK Ar V := fun σ _ _ _ _ HF' r v => ArOk G σ HF' r v
abbrev tO (G : Tab) (W : Wt) (m : Gam → Out Ar) : TE := tM (rO G) G W m
inductive ArsOk (G : Tab) (σ : L2.St) (HF : Hp) : List Ar → List V → Prop
  | nil : ArsOk G σ HF [] []
  | cons {a : Ar} {as : List Ar} {v : V} {vs : List V} : ArOk G σ HF a v → ArsOk G σ HF as vs → ArsOk G σ HF (a :: as) (v :: vs)
def rA (G : Tab) : RelK (List Ar) (List V) := fun σ _ _ _ _ HF' r v => ArsOk G σ HF' r v
abbrev tA (G : Tab) (W : Wt) (m : Gam → Out (List Ar)) : TA := tM (rA G) G W m
def rT : RelK Bool Bool := fun _ _ _ _ _ _ a b => a = b
abbrev tT (G : Tab) (W : Wt) (m : Gam → Out Bool) : TT := tM rT G W m

theorem post_bind {α β α' β' : Type} {r1 : RelK α β} {r2 : RelK α' β'} {G : Tab} {W : Wt} {σ : L2.St} {γ : Gam} {H HF : Hp} {Q1 : β → Hp → Prop} {Q : β' → Hp → Prop} {f : α → Gam → Out α'} : ∀ {o : Out α}, post r2 G W σ γ H HF Q (o.bind f) →
    (∀ a γ1 b1 H1 HF1, Ok G σ H1 HF1 γ1 → Stp σ γ H HF σ γ1 H1 HF1 → r1 σ γ H γ1 H1 HF1 a b1 → post r2 G W σ γ H HF Q (f a γ1) → Q1 b1 H1) → post r1 G W σ γ H HF Q1 o
  | .ok a γ1, h, k => fun b H1 HF1 h1 h2 h3 => k a γ1 b H1 HF1 h1 h2 h3 h
  | .er x γ1, h, _ => h
  | .bad, h, _ => h
structure Later {α β : Type} (r : RelK α β) : Prop where
  mv : ∀ {σ : L2.St} {γ γ1 γ' : Gam} {H HF H1 HF1 H' HF' : Hp} {a : α} {b : β}, Stp σ γ H HF σ γ1 H1 HF1 → r σ γ1 H1 γ' H' HF' a b → r σ γ H γ' H' HF' a b
/-- the start moved on -/
theorem post_from {α β : Type} {r : RelK α β} (L : Later r) {G : Tab} {W : Wt} {σ : L2.St} {γ γ1 : Gam} {H HF H1 HF1 : Hp} {Q : β → Hp → Prop} (s : Stp σ γ H HF σ γ1 H1 HF1) : ∀ {o : Out α}, post r G W σ γ H HF Q o → post r G W σ γ1 H1 HF1 Q o
  | .ok a γ', h => fun b H' HF' k1 k2 k3 => h b H' HF' k1 (s.trans k2) (L.mv s k3)
  | .er x γ', h => fun c d H' HF' k1 k2 k3 => h c d H' HF' k1 (s.trans k2) k3
  | .bad, h => h
theorem later_O {G : Tab} : Later (rO G) := ⟨fun _ h => h⟩
theorem later_A {G : Tab} : Later (rA G) := ⟨fun _ h => h⟩
theorem later_T : Later rT := ⟨fun _ h => h⟩
theorem later_E {G : Tab} : Later (rE G) := by
  refine ⟨?_⟩
  intro σ γ γ1 γ' H HF H1 HF1 H' HF' a b s h
  cases a with
  | fz d => exact h
  | own d =>
    obtain ⟨a, e, o, n, w⟩ := h
    refine ⟨a, e, o, n, ?_⟩
    rcases w with w | ⟨i, w⟩
    · by_cases hn : ∃ i, OwnAt σ γ i a
      · exact .inr hn
      · by_cases hz : H a = none
        · exact .inl hz
        · obtain ⟨e1, _⟩ := s.frame a hz fun i z => hn ⟨i, z⟩
          rw [e1] at w
          exact absurd w hz
    · rcases s.own i a w with q | q
      · exact .inr q
      · exact .inl q

inductive OutS where
  | nx (γ : Gam) | rt (r : R) (γ : Gam) | bk (γ : Gam) | ct (γ : Gam) | er (x : Exn) (γ : Gam) | bad
def postS (G : Tab) (W : Wt) (σ : St) (γ : Gam) (H HF : Hp) (E : Ends) : OutS → Prop
  | .nx γ' => ∀ σ' H' HF', Ok G σ' H' HF' γ' → Stp σ γ H HF σ' γ' H' HF' → E.nx σ' H'
  | .bk γ' => ∀ σ' H' HF', Ok G σ' H' HF' γ' → Stp σ γ H HF σ' γ' H' HF' → E.bk σ' H'
  | .ct γ' => ∀ σ' H' HF', Ok G σ' H' HF' γ' → Stp σ γ H HF σ' γ' H' HF' → E.ct σ' H'
  | .rt r γ' => ∀ σ' v H' HF', Ok G σ' H' HF' γ' → Stp σ γ H HF σ' γ' H' HF' → ROk2 G σ γ H σ' γ' H' HF' r v → E.rt v H'
  | .er x γ' => ∀ cls d σ' H' HF', Ok G σ' H' HF' γ' → Stp σ γ H HF σ' γ' H' HF' → XRep G x cls d H' HF' → W cls d σ' H'
  | .bad => False
theorem ROk2.from {G : Tab} {σ σ1 σ' : L2.St} {γ γ1 γ' : Gam} {H HF H1 HF1 H' HF' : Hp} {r : R} {v : V} (s : Stp σ γ H HF σ1 γ1 H1 HF1) (h : ROk2 G σ1 γ1 H1 σ' γ' H' HF' r v) : ROk2 G σ γ H σ' γ' H' HF' r v := by
  cases r with
  | fz d => exact h
  | own d =>
    obtain ⟨a, e, o, n, w⟩ := h
    refine ⟨a, e, o, n, ?_⟩
    rcases w with w | ⟨i, w⟩
    · by_cases hn : ∃ i, OwnAt σ γ i a
      · exact .inr hn
      · by_cases hz : H a = none
        · exact .inl hz
        · obtain ⟨e1, _⟩ := s.frame a hz fun i z => hn ⟨i, z⟩
          rw [e1] at w
          exact absurd w hz
    · rcases s.own i a w with q | q
      · exact .inr q
      · exact .inl q
theorem postS_from {G : Tab} {W : Wt} {σ σ1 : L2.St} {γ γ1 : Gam} {H HF H1 HF1 : Hp} {E : Ends} (s : Stp σ γ H HF σ1 γ1 H1 HF1) : ∀ {o : OutS}, postS G W σ γ H HF E o → postS G W σ1 γ1 H1 HF1 E o
  | .nx _, h => fun σ' H' HF' k1 k2 => h σ' H' HF' k1 (s.trans k2)
  | .bk _, h => fun σ' H' HF' k1 k2 => h σ' H' HF' k1 (s.trans k2)
  | .ct _, h => fun σ' H' HF' k1 k2 => h σ' H' HF' k1 (s.trans k2)
  | .rt _ _, h => fun σ' v H' HF' k1 k2 r => h σ' v H' HF' k1 (s.trans k2) (r.from s)
  | .er _ _, h => fun c d σ' H' HF' k1 k2 r => h c d σ' H' HF' k1 (s.trans k2) r
  | .bad, h => h
def Out.toS {α : Type} (o : Out α) (f : α → Gam → OutS) : OutS := match o with
  | .ok a γ => f a γ
  | .er x γ => .er x γ
  | .bad => .bad
theorem postS_bind {α β : Type} {r1 : RelK α β} {G : Tab} {W : Wt} {σ : L2.St} {γ : Gam} {H HF : Hp} {Q1 : β → Hp → Prop} {E : Ends} {f : α → Gam → OutS} : ∀ {o : Out α}, postS G W σ γ H HF E (o.toS f) →
    (∀ a γ1 b1 H1 HF1, Ok G σ H1 HF1 γ1 → Stp σ γ H HF σ γ1 H1 HF1 → r1 σ γ H γ1 H1 HF1 a b1 → postS G W σ γ H HF E (f a γ1) → Q1 b1 H1) → post r1 G W σ γ H HF Q1 o
  | .ok a γ1, h, k => fun b H1 HF1 h1 h2 h3 => k a γ1 b H1 HF1 h1 h2 h3 h
  | .er x γ1, h, _ => fun c d H' HF' k1 k2 r => h c d σ H' HF' k1 k2 r
  | .bad, h, _ => h
def tS (G : Tab) (W : Wt) (m : Gam → OutS) : TS := fun E σ H => ∃ HF γ, Ok G σ H HF γ ∧ postS G W σ γ H HF E (m γ)
end T

-- text T1
set_option Elab.async false
set_option linter.all false
set_option maxRecDepth 100000
set_option maxHeartbeats 4000000
namespace T
open PySem L2

theorem sub_upd {H : Hp} {a : Addr} {o : HO} (h : H a = none) : Sub H (upd H a o) := fun b u e => by
  rw [upd_ne (ne_of_none e h)]; exact e
theorem Ok.hf_none {G : Tab} {σ : L2.St} {H HF : Hp} {γ : Gam} (k : Ok G σ H HF γ) {p : Addr} (h : H p = none) : HF p = none := by
  cases e : HF p with
  | none => rfl
  | some u => rw [k.sub _ _ e] at h; cases h
theorem OwnRep.at_ {G : Tab} {HF H : Hp} {d : D} {a : Addr} (h : OwnRep G HF H d a) : ∃ o, H a = some o ∧ HF a = none := by
  cases d with
  | lst ds => obtain ⟨xs, e, n, _⟩ := h; exact ⟨_, e, n⟩
  | _ => exact h.elim
/-- own things stay where the heap and the frozen part stay -/
theorem OwnRep.keep {G : Tab} {HF H HF' H' : Hp} {d : D} {a : Addr} (h : OwnRep G HF H d a) (s : Sub HF HF') (e : H' a = H a) (n : HF' a = none) : OwnRep G HF' H' d a := by
  cases d with
  | lst ds => obtain ⟨xs, e1, _, r⟩ := h; exact ⟨xs, e.trans e1, n, RepL.mono s _ _ r⟩
  | _ => exact h.elim
theorem SlOk.own_at {G : Tab} {HF H : Hp} {o : Option V} {s : Sl} (h : SlOk G HF H o s) (w : s.owns = true) : ∃ a d, o = some (.ref a) ∧ OwnRep G HF H d a := by
  cases s with
  | un => cases w
  | fz d => cases w
  | own d => obtain ⟨a, e, r⟩ := h; exact ⟨a, d, e, r⟩
  | io d => obtain ⟨a, e, r⟩ := h; exact ⟨a, d, e, r⟩
theorem Ok.own {G : Tab} {σ : L2.St} {H HF : Hp} {γ : Gam} (k : Ok G σ H HF γ) {i : Nat} {a : Addr} (h : OwnAt σ γ i a) : ∃ o, H a = some o ∧ HF a = none := by
  obtain ⟨⟨s, e, w⟩, q⟩ := h
  have z := k.sl i s e
  rw [q] at z
  obtain ⟨b, d, e1, r⟩ := z.own_at w
  cases e1
  exact r.at_
/-- a slot's state moved along -/
theorem SlOk.keep {G : Tab} {HF H HF' H' : Hp} {o : Option V} {s : Sl} (h : SlOk G HF H o s) (m : Sub HF HF') (f : ∀ a, s.owns = true → o = some (.ref a) → H' a = H a ∧ HF' a = none) : SlOk G HF' H' o s := by
  cases s with
  | un => trivial
  | fz d => obtain ⟨v, e, r⟩ := h; exact ⟨v, e, Rep.mono m d v r⟩
  | own d => obtain ⟨a, e, r⟩ := h; obtain ⟨e1, e2⟩ := f a rfl e; exact ⟨a, e, r.keep m e1 e2⟩
  | io d => obtain ⟨a, e, r⟩ := h; obtain ⟨e1, e2⟩ := f a rfl e; exact ⟨a, e, r.keep m e1 e2⟩
theorem ownAt_of {σ : L2.St} {γ : Gam} {i : Nat} {s : Sl} {a : Addr} (e : γ[i]? = some s) (w : s.owns = true) (q : σ[i]?.join = some (.ref a)) : OwnAt σ γ i a := by
  refine ⟨⟨s, e, w⟩, ?_⟩
  cases h : σ[i]? with
  | none => rw [h] at q; cases q
  | some o => rw [h] at q; simp at q; rw [q]
/-- the heap and its frozen part grow, own things stay -/
theorem Ok.keep {G : Tab} {σ : L2.St} {H HF H' HF' : Hp} {γ : Gam} (k : Ok G σ H HF γ) (s : Sub HF' H') (m : Sub HF HF') (f : ∀ i a, OwnAt σ γ i a → H' a = H a ∧ HF' a = none) : Ok G σ H' HF' γ :=
  ⟨s, k.len, fun i sl e => (k.sl i sl e).keep m fun a w q => f i a (ownAt_of e w q), k.dis⟩

/-- a new object, not frozen -/
theorem Ok.laid {G : Tab} {σ : L2.St} {H HF : Hp} {γ : Gam} (k : Ok G σ H HF γ) {p : Addr} {o : HO} (h : H p = none) : Ok G σ (upd H p o) HF γ :=
  k.keep (k.sub.trans (sub_upd h)) (Sub.refl _) fun i a q => by
    obtain ⟨u, e, n⟩ := k.own q
    exact ⟨upd_ne (ne_of_none e h), n⟩
theorem Stp.laid {σ : L2.St} {γ : Gam} {H HF : Hp} {p : Addr} {o : HO} (h : H p = none) : Stp σ γ H HF σ γ (upd H p o) HF :=
  ⟨Sub.refl _, fun b nb _ => ⟨upd_ne (fun z => nb (z ▸ h)), rfl⟩, fun j b q => .inl ⟨j, q⟩, fun i s e w => ⟨⟨s, e, w⟩, rfl⟩⟩
/-- frozen -/
theorem Ok.frz {G : Tab} {σ : L2.St} {H HF : Hp} {γ : Gam} (k : Ok G σ H HF γ) {p : Addr} {o : HO} (h : H p = some o) (n : HF p = none) (w : ∀ j, ¬ OwnAt σ γ j p) : Ok G σ H (upd HF p o) γ :=
  k.keep (fun b u e => by
    by_cases hb : b = p
    · subst hb; rw [upd_same] at e; cases e; exact h
    · rw [upd_ne hb] at e; exact k.sub _ _ e) (sub_upd n) fun i a q => by
    obtain ⟨u, e, m⟩ := k.own q
    exact ⟨rfl, by rw [upd_ne (show a ≠ p from fun z => w i (by rw [← z]; exact q))]; exact m⟩
theorem Stp.frz {σ σ' : L2.St} {γ γ' : Gam} {H HF H' HF' : Hp} (s : Stp σ γ H HF σ' γ' H' HF') {p : Addr} {o : HO} (n : HF' p = none) (w : H p = none ∨ ∃ i, OwnAt σ γ i p) : Stp σ γ H HF σ' γ' H' (upd HF' p o) :=
  ⟨s.mono.trans (sub_upd n), fun b nb q => by
    obtain ⟨e1, e2⟩ := s.frame b nb q
    refine ⟨e1, ?_⟩
    rw [upd_ne]
    · exact e2
    · rintro rfl
      rcases w with w | ⟨i, w⟩
      · exact nb w
      · exact q i w, s.own, s.io⟩
/-- a new object, frozen at once -/
theorem Ok.laidF {G : Tab} {σ : L2.St} {H HF : Hp} {γ : Gam} (k : Ok G σ H HF γ) {p : Addr} {o : HO} (h : H p = none) : Ok G σ (upd H p o) (upd HF p o) γ :=
  (k.laid h).frz upd_same (k.hf_none h) fun j q => by
    obtain ⟨u, e, _⟩ := k.own q
    rw [h] at e; cases e
theorem Stp.laidF {G : Tab} {σ : L2.St} {γ : Gam} {H HF : Hp} (k : Ok G σ H HF γ) {p : Addr} {o : HO} (h : H p = none) : Stp σ γ H HF σ γ (upd H p o) (upd HF p o) :=
  (Stp.laid h).frz (k.hf_none h) (.inl h)

/-- an own result is frozen -/
theorem ROk.frz {G : Tab} {σ : L2.St} {γ γ' : Gam} {H HF H' HF' : Hp} {d : D} {v : V} (r : ROk G σ γ H γ' H' HF' (.own d) v) (k : Ok G σ H' HF' γ') (s : Stp σ γ H HF σ γ' H' HF') :
    ∃ HF2, Ok G σ H' HF2 γ' ∧ Stp σ γ H HF σ γ' H' HF2 ∧ Sub HF' HF2 ∧ Rep G HF2 d v := by
  obtain ⟨a, e, o, n, w⟩ := r
  subst e
  cases d with
  | lst ds =>
    obtain ⟨xs, e1, e2, q⟩ := o
    have m : Sub HF' (upd HF' a (.lst xs)) := sub_upd e2
    refine ⟨upd HF' a (.lst xs), k.frz e1 e2 n, s.frz e2 w, m, ?_⟩
    unfold Rep
    exact ⟨a, xs, rfl, upd_same, RepL.mono m _ _ q⟩
  | _ => exact o.elim

section
variable {X : Cx} {G : Tab} {W : Wt} {σ : L2.St} {H : Hp}
/-- from a result to an operand -/
def fO (m : Gam → Out R) : Gam → Out Ar := fun γ => match m γ with
  | .ok (.fz d) γ' => .ok (.d d) γ'
  | .ok (.own d) γ' => .ok (.d d) γ'
  | .er x γ' => .er x γ'
  | .bad => .bad
theorem tO_of {m : Gam → Out R} {Q : VK} (h : tO G W (fO m) σ H Q) : tE G W m σ H Q := by
  obtain ⟨HF, γ, k, p⟩ := h
  refine ⟨HF, γ, k, ?_⟩
  unfold fO at p
  cases e : m γ with
  | bad => rw [e] at p; exact p
  | er x γ' => rw [e] at p; exact p
  | ok r γ' =>
    rw [e] at p
    cases r with
    | fz d => exact fun v H' HF' k' s' r' => p v H' HF' k' s' r'
    | own d =>
      intro v H' HF' k' s' r'
      obtain ⟨HF2, k2, s2, m2, r2⟩ := r'.frz k' s'
      exact p v H' HF2 k2 s2 r2
theorem to_val {e : Expr} {m : Gam → Out R} (h : PE X e (tE G W m)) : PE X e (tO G W (fO m)) := ⟨fun pins s σ H Q I hw => h.run pins s σ H Q I (tO_of hw)⟩

/-- a slot as it stands -/
def oSl (i : Nat) : Gam → Out Ar := fun γ => match γ[i]? with
  | some (.un) => .bad
  | some _ => .ok (.sl i) γ
  | none => .bad
theorem Ok.val {G : Tab} {σ : L2.St} {H HF : Hp} {γ : Gam} (k : Ok G σ H HF γ) {i : Nat} {s : Sl} (e : γ[i]? = some s) (n : s ≠ .un) : ∃ v, σ[i]? = some (some v) := by
  have z := k.sl i s e
  have j : ∀ v : V, σ[i]?.join = some v → σ[i]? = some (some v) := fun v q => by
    cases h : σ[i]? with
    | none => rw [h] at q; cases q
    | some o => rw [h] at q; simp at q; rw [q]
  cases s with
  | un => exact absurd rfl n
  | fz d => obtain ⟨v, q, _⟩ := z; exact ⟨v, j v q⟩
  | own d => obtain ⟨a, q, _⟩ := z; exact ⟨_, j _ q⟩
  | io d => obtain ⟨a, q, _⟩ := z; exact ⟨_, j _ q⟩
theorem to_sl {i : Nat} {x : Str} {pos : Pos} (hN : X.N[i]? = some x) (hv : Vis X.env.scope x) (hd : (x == ("__debug__" : Str)) = false) (hcd : (x == ("__classdict__" : Str)) = false) : PE X (.Name x pos) (tO G W (oSl i)) := by
  refine ⟨fun pins s σ H Q I h => (pe_var hN hv hd hcd).run pins s σ H Q I ?_⟩
  obtain ⟨HF, γ, k, p⟩ := h
  unfold oSl at p
  cases e : γ[i]? with
  | none => rw [e] at p; exact p.elim
  | some sl =>
    rw [e] at p
    by_cases n : sl = .un
    · subst n; exact p.elim
    · obtain ⟨v, q⟩ := k.val e n
      refine ⟨v, q, ?_⟩
      cases sl with
      | un => exact absurd rfl n
      | _ => exact p v H HF k .refl q
/-- a slot's value, frozen -/
def eRd (i : Nat) : Gam → Out R := fun γ => match γ[i]? with
  | some (.fz d) => .ok (.fz d) γ
  | some (.own d) => .ok (.fz d) (γ.set i (.fz d))
  | _ => .bad
/-- a slot's value, taken out of the slot -/
def eMv (i : Nat) : Gam → Out R := fun γ => match γ[i]? with
  | some (.fz d) => .ok (.fz d) γ
  | some (.own d) => .ok (.own d) (γ.set i .un)
  | _ => .bad
end
theorem getE_set {α : Type} {l : List α} {i j : Nat} {x y : α} (e : (l.set i x)[j]? = some y) : (j = i ∧ y = x ∧ i < l.length) ∨ (j ≠ i ∧ l[j]? = some y) := by
  by_cases h : j = i
  · subst h
    by_cases hl : j < l.length
    · rw [List.getElem?_set_self hl] at e; cases e; exact .inl ⟨rfl, rfl, hl⟩
    · rw [List.getElem?_eq_none (by simpa using hl)] at e; cases e
  · rw [List.getElem?_set_ne (Ne.symm h)] at e; exact .inr ⟨h, e⟩
/-- own slots after a slot has ceased to own -/
theorem OwnAt.unset {σ : L2.St} {γ : Gam} {i j : Nat} {s : Sl} {a : Addr} (w : s.owns = false) (h : OwnAt σ (γ.set i s) j a) : j ≠ i ∧ OwnAt σ γ j a := by
  obtain ⟨⟨t, e, q⟩, z⟩ := h
  rcases getE_set e with ⟨_, rfl, _⟩ | ⟨n, e⟩
  · rw [w] at q; cases q
  · exact ⟨n, ⟨⟨t, e, q⟩, z⟩⟩
theorem Stp.unown {G : Tab} {σ : L2.St} {γ : Gam} {H HF : Hp} {i : Nat} {s s0 : Sl} (e : γ[i]? = some s0) (n0 : s0.isIo = false) (w : s.owns = false) : Stp σ γ H HF σ (γ.set i s) H HF :=
  ⟨Sub.refl _, fun b _ _ => ⟨rfl, rfl⟩, fun j b q => .inl ⟨j, (q.unset w).2⟩, fun j t et wt => by
    refine ⟨⟨t, ?_, wt⟩, rfl⟩
    rw [List.getElem?_set_ne]
    · exact et
    · rintro rfl; rw [e] at et; cases et; rw [n0] at wt; cases wt⟩
section
variable {X : Cx} {G : Tab} {W : Wt}
theorem join_eq {σ : L2.St} {i : Nat} {v : V} (h : σ[i]?.join = some v) : σ[i]? = some (some v) := by
  cases q : σ[i]? with
  | none => rw [q] at h; cases h
  | some o => rw [q] at h; simp at h; rw [h]
theorem te_rd {i : Nat} {x : Str} {pos : Pos} (hN : X.N[i]? = some x) (hv : Vis X.env.scope x) (hd : (x == ("__debug__" : Str)) = false) (hcd : (x == ("__classdict__" : Str)) = false) : PE X (.Name x pos) (tE G W (eRd i)) := by
  refine ⟨fun pins s σ H Q I h => (pe_var hN hv hd hcd).run pins s σ H Q I ?_⟩
  obtain ⟨HF, γ, k, p⟩ := h
  unfold eRd at p
  cases e : γ[i]? with
  | none => rw [e] at p; exact p.elim
  | some sl =>
    rw [e] at p
    have z := k.sl i sl e
    cases sl with
    | un => exact p.elim
    | io d => exact p.elim
    | fz d =>
      obtain ⟨v, q, r⟩ := z
      exact ⟨v, join_eq q, p v H HF k .refl r⟩
    | own d =>
      obtain ⟨a, q, r⟩ := z
      refine ⟨.ref a, join_eq q, ?_⟩
      have oa : OwnAt σ γ i a := ownAt_of e rfl q
      cases d with
      | lst ds =>
        obtain ⟨xs, e1, e2, rr⟩ := r
        have m : Sub HF (upd HF a (.lst xs)) := sub_upd e2
        have hl : i < γ.length := (List.getElem?_eq_some_iff.mp e).1
        have rep : Rep G (upd HF a (.lst xs)) (.lst ds) (.ref a) := by
          unfold Rep
          exact ⟨a, xs, rfl, upd_same, RepL.mono m _ _ rr⟩
        have un : ∀ j b, OwnAt σ (γ.set i (.fz (.lst ds))) j b → b ≠ a ∧ OwnAt σ γ j b := fun j b h => by
          obtain ⟨n, h⟩ := h.unset rfl
          exact ⟨fun z => n (k.dis _ _ _ (z ▸ h) oa), h⟩
        refine p (.ref a) H (upd HF a (.lst xs)) ⟨fun b u eb => ?_, by rw [List.length_set]; exact k.len, fun j s ej => ?_, fun j l b h1 h2 => k.dis j l b (un j b h1).2 (un l b h2).2⟩
          ((Stp.unown (G := G) (s0 := .own (.lst ds)) e rfl rfl).frz e2 (.inr ⟨i, oa⟩)) rep
        · by_cases hb : b = a
          · subst hb; rw [upd_same] at eb; cases eb; exact e1
          · rw [upd_ne hb] at eb; exact k.sub _ _ eb
        · rcases getE_set ej with ⟨rfl, rfl, _⟩ | ⟨n, ej⟩
          · exact ⟨.ref a, q, rep⟩
          · refine (k.sl j s ej).keep m fun b w qb => ⟨rfl, ?_⟩
            have ob := ownAt_of ej w qb
            obtain ⟨_, _, nb⟩ := k.own ob
            rw [upd_ne (show b ≠ a from fun z => n (k.dis _ _ _ (by rw [← z]; exact ob) oa))]
            exact nb
      | _ => exact r.elim
theorem te_mv {i : Nat} {x : Str} {pos : Pos} (hN : X.N[i]? = some x) (hv : Vis X.env.scope x) (hd : (x == ("__debug__" : Str)) = false) (hcd : (x == ("__classdict__" : Str)) = false) : PE X (.Name x pos) (tE G W (eMv i)) := by
  refine ⟨fun pins s σ H Q I h => (pe_var hN hv hd hcd).run pins s σ H Q I ?_⟩
  obtain ⟨HF, γ, k, p⟩ := h
  unfold eMv at p
  cases e : γ[i]? with
  | none => rw [e] at p; exact p.elim
  | some sl =>
    rw [e] at p
    have z := k.sl i sl e
    cases sl with
    | un => exact p.elim
    | io d => exact p.elim
    | fz d =>
      obtain ⟨v, q, r⟩ := z
      exact ⟨v, join_eq q, p v H HF k .refl r⟩
    | own d =>
      obtain ⟨a, q, r⟩ := z
      refine ⟨.ref a, join_eq q, ?_⟩
      have oa : OwnAt σ γ i a := ownAt_of e rfl q
      refine p (.ref a) H HF ⟨k.sub, by rw [List.length_set]; exact k.len, fun j s ej => ?_, fun j l b h1 h2 => k.dis j l b (h1.unset rfl).2 (h2.unset rfl).2⟩ (Stp.unown (G := G) (s0 := .own d) e rfl rfl) ⟨a, rfl, r, fun j h => ?_, .inr ⟨i, oa⟩⟩
      · rcases getE_set ej with ⟨rfl, rfl, _⟩ | ⟨n, ej⟩
        · trivial
        · exact k.sl j s ej
      · obtain ⟨n, h⟩ := h.unset rfl
        exact n (k.dis _ _ _ h oa)
end
end T

-- text T2
set_option Elab.async false
set_option linter.all false
set_option maxRecDepth 100000
set_option maxHeartbeats 4000000
namespace T
open PySem L2
section
variable {X : Cx} {G : Tab} {W : Wt} {σ : L2.St} {H HF HF' : Hp} {γ : Gam}
theorem ArOk.mono {a : Ar} {v : V} (s : Sub HF HF') (h : ArOk G σ HF a v) : ArOk G σ HF' a v := by
  cases a with
  | d d => exact Rep.mono s d v h
  | sl i => exact h
theorem ArsOk.mono (s : Sub HF HF') : ∀ {as : List Ar} {vs : List V}, ArsOk G σ HF as vs → ArsOk G σ HF' as vs
  | _, _, .nil => .nil
  | _, _, .cons h t => .cons (h.mono s) (ArsOk.mono s t)

def aNil : Gam → Out (List Ar) := fun γ => .ok [] γ
def aCons (m : Gam → Out Ar) (ms : Gam → Out (List Ar)) : Gam → Out (List Ar) := fun γ => (m γ).bind fun a γ1 => (ms γ1).bind fun as γ2 => .ok (a :: as) γ2
theorem ta_nil {Q : List V → Hp → Prop} (h : tA G W aNil σ H Q) : tNil σ H Q := by
  obtain ⟨HF, γ, k, p⟩ := h
  exact p [] H HF k .refl .nil
theorem ta_cons {m : Gam → Out Ar} {ms : Gam → Out (List Ar)} {Q : List V → Hp → Prop} (h : tA G W (aCons m ms) σ H Q) : tCons (tO G W m) (tA G W ms) σ H Q := by
  obtain ⟨HF, γ, k, p⟩ := h
  refine ⟨HF, γ, k, post_bind (r1 := rO G) p fun a γ1 b1 H1 HF1 k1 s1 r1 p1 => ?_⟩
  refine ⟨HF1, γ1, k1, post_bind (r1 := rA G) (post_from later_A s1 p1) fun as γ2 vs H2 HF2 k2 s2 r2 p2 => ?_⟩
  exact p2 (b1 :: vs) H2 HF2 k2 s2 (.cons (ArOk.mono s2.mono r1) r2)
theorem tpa_nil : PA X [] (tA G W aNil) := ⟨fun pos pins s σ H Q I h => pa_nil.run pos pins s σ H Q I (ta_nil h)⟩
theorem tpa_cons {e : Expr} {es : List Expr} {m : Gam → Out Ar} {ms : Gam → Out (List Ar)} (ha : PE X e (tO G W m)) (hr : PA X es (tA G W ms)) (hs : starEach (e :: es) X.env = (false, eval e X.env) :: starEach es X.env) :
    PA X (e :: es) (tA G W (aCons m ms)) := ⟨fun pos pins s σ H Q I h => (pa_cons ha hr hs).run pos pins s σ H Q I (ta_cons h)⟩

/-! what an operand holds -/
def slD : Sl → Option D
  | .fz d => some d | .own d => some d | .io d => some d | .un => none
def look (γ : Gam) : Ar → Option D
  | .d d => some d
  | .sl i => match γ[i]? with
    | some s => slD s
    | none => none
def looks (γ : Gam) : List Ar → Option (List D)
  | [] => some []
  | a :: as => match look γ a with
    | some d => (match looks γ as with
      | some ds => some (d :: ds)
      | none => none)
    | none => none
def Pk (G : Tab) (HF H : Hp) (d : D) (v : V) : Prop := Rep G HF d v ∨ ∃ a, v = .ref a ∧ OwnRep G HF H d a
inductive Pks (G : Tab) (HF H : Hp) : List D → List V → Prop
  | nil : Pks G HF H [] []
  | cons {d : D} {ds : List D} {v : V} {vs : List V} : Pk G HF H d v → Pks G HF H ds vs → Pks G HF H (d :: ds) (v :: vs)
theorem look_pk (k : Ok G σ H HF γ) {a : Ar} {v : V} {d : D} (r : ArOk G σ HF a v) (e : look γ a = some d) : Pk G HF H d v := by
  cases a with
  | d d' => cases e; exact .inl r
  | sl i =>
    have r' : σ[i]? = some (some v) := r
    unfold look at e
    cases q : γ[i]? with
    | none => simp only [q] at e; cases e
    | some s =>
      simp only [q] at e
      have z := k.sl i s q
      rw [r'] at z
      cases s with
      | un => cases e
      | fz d' =>
        cases e
        obtain ⟨w, e1, rr⟩ := z
        cases e1
        exact .inl rr
      | own d' =>
        cases e
        obtain ⟨a, e1, rr⟩ := z
        cases e1
        exact .inr ⟨a, rfl, rr⟩
      | io d' =>
        cases e
        obtain ⟨a, e1, rr⟩ := z
        cases e1
        exact .inr ⟨a, rfl, rr⟩
theorem looks_pk (k : Ok G σ H HF γ) : ∀ {as : List Ar} {vs : List V} {ds : List D}, ArsOk G σ HF as vs → looks γ as = some ds → Pks G HF H ds vs
  | _, _, _, .nil, e => by cases e; exact .nil
  | a :: as, _, ds, .cons r t, e => by
    unfold looks at e
    cases q : look γ a with
    | none => rw [q] at e; cases e
    | some d =>
      rw [q] at e
      cases q2 : looks γ as with
      | none => rw [q2] at e; cases e
      | some ds' =>
        rw [q2] at e
        cases e
        exact .cons (look_pk k r q) (looks_pk k t q2)
theorem Pk.int {i : Int} {v : V} (h : Pk G HF H (.int i) v) : v = .int i := by
  rcases h with h | ⟨_, _, h⟩
  · exact h
  · exact h.elim
theorem Pk.bl {i : Bool} {v : V} (h : Pk G HF H (.bl i) v) : v = .bl i := by
  rcases h with h | ⟨_, _, h⟩
  · exact h
  · exact h.elim
theorem Pk.str {i : Str} {v : V} (h : Pk G HF H (.str i) v) : v = .str i := by
  rcases h with h | ⟨_, _, h⟩
  · exact h
  · exact h.elim
theorem Pk.non {v : V} (h : Pk G HF H .non v) : v = .non := by
  rcases h with h | ⟨_, _, h⟩
  · exact h
  · exact h.elim
theorem Pk.ty {n : String} {v : V} (h : Pk G HF H (.ty n) v) : v = .ty n := by
  rcases h with h | ⟨_, _, h⟩
  · exact h
  · exact h.elim
theorem Pk.tup {ds : List D} {v : V} (s : Sub HF H) (h : Pk G HF H (.tup ds) v) : ∃ a xs, v = .ref a ∧ SqT G.K H a xs ∧ RepL G HF ds xs := by
  rcases h with h | ⟨_, _, h⟩
  · unfold Rep at h
    obtain ⟨a, xs, e, q, r⟩ := h
    exact ⟨a, xs, e, SqT.mono s q, r⟩
  · exact h.elim
theorem Pk.tupF {ds : List D} {v : V} (h : Pk G HF H (.tup ds) v) : Rep G HF (.tup ds) v := by
  rcases h with h | ⟨_, _, h⟩
  · exact h
  · exact h.elim
theorem Pk.lst {ds : List D} {v : V} (s : Sub HF H) (h : Pk G HF H (.lst ds) v) : ∃ a xs, v = .ref a ∧ H a = some (.lst xs) ∧ RepL G HF ds xs := by
  rcases h with h | ⟨a, e, xs, h, _, r⟩
  · unfold Rep at h
    obtain ⟨a, xs, e, q, r⟩ := h
    exact ⟨a, xs, e, s _ _ q, r⟩
  · exact ⟨a, xs, e, h, r⟩
theorem Pk.frz {ds : List D} {v : V} (s : Sub HF H) (h : Pk G HF H (.frz ds) v) : ∃ a xs, v = .ref a ∧ SqL G.K H a xs ∧ RepL G HF ds xs := by
  rcases h with h | ⟨_, _, h⟩
  · unfold Rep at h
    obtain ⟨a, xs, e, q, r⟩ := h
    exact ⟨a, xs, e, SqL.mono s q, r⟩
  · exact h.elim

/-! results of operations -/
inductive BR where
  | val (d : D) | newL (ds : List D) | newT (ds : List D)
def BRes (G : Tab) (HF H : Hp) : BR → V → Hp → Prop
  | .val d, v, H' => H' = H ∧ Rep G HF d v
  | .newL ds, v, H' => ∃ p xs, v = .ref p ∧ H p = none ∧ H' = upd H p (.lst xs) ∧ RepL G HF ds xs
  | .newT ds, v, H' => ∃ p xs, v = .ref p ∧ H p = none ∧ H' = upd H p (.tup xs) ∧ RepL G HF ds xs
def BR.out (br : BR) (γ : Gam) : Out R := match br with
  | .val d => .ok (.fz d) γ
  | .newL ds => .ok (.own (.lst ds)) γ
  | .newT ds => .ok (.fz (.tup ds)) γ
def ofB (o : Option BR) (γ : Gam) : Out R := match o with
  | some br => br.out γ
  | none => .bad
theorem rep_newT {G : Tab} {HF : Hp} {p : Addr} {ds : List D} {xs : List V} (n : HF p = none) (r : RepL G HF ds xs) : Rep G (upd HF p (.tup xs)) (.tup ds) (.ref p) := by
  unfold Rep
  exact ⟨p, xs, rfl, SqT.of upd_same, RepL.mono (sub_upd n) _ _ r⟩
theorem br_fin {br : BR} {v : V} {H' : Hp} {Q : VK} (k : Ok G σ H HF γ) (p : post (rE G) G W σ γ H HF Q (br.out γ)) (b : BRes G HF H br v H') : Q v H' := by
  cases br with
  | val d => obtain ⟨rfl, r⟩ := b; exact p v _ HF k .refl r
  | newL ds =>
    obtain ⟨q, xs, rfl, n, rfl, r⟩ := b
    refine p (.ref q) _ HF (k.laid n) (.laid n) ⟨q, rfl, ⟨xs, upd_same, k.hf_none n, r⟩, fun j z => ?_, .inl n⟩
    obtain ⟨u, e, _⟩ := k.own z
    rw [n] at e; cases e
  | newT ds =>
    obtain ⟨q, xs, rfl, n, rfl, r⟩ := b
    exact p (.ref q) _ _ (k.laidF n) (.laidF k n) (rep_newT (k.hf_none n) r)

/-! operators of two operands, calls of built-ins -/
def OpOk (G : Tab) (r : R2) (f : D → D → Option BR) : Prop := ∀ {H HF : Hp} {x y : V} {d1 d2 : D} {br : BR} {Q : VK}, Sub HF H → Pk G HF H d1 x → Pk G HF H d2 y → f d1 d2 = some br → (∀ v H', BRes G HF H br v H' → Q v H') → r x y H Q
def eOp (f : D → D → Option BR) (ma mb : Gam → Out Ar) : Gam → Out R := fun γ => (ma γ).bind fun a γ1 => (mb γ1).bind fun b γ2 => match look γ2 a with
  | some d1 => (match look γ2 b with
    | some d2 => ofB (f d1 d2) γ2
    | none => .bad)
  | none => .bad
theorem te_op {r : R2} {f : D → D → Option BR} (F : OpOk G r f) {ma mb : Gam → Out Ar} {Q : VK} (h : tE G W (eOp f ma mb) σ H Q) : tOp r (tO G W ma) (tO G W mb) σ H Q := by
  obtain ⟨HF, γ, k, p⟩ := h
  refine ⟨HF, γ, k, post_bind (r1 := rO G) p fun a γ1 x H1 HF1 k1 s1 r1 p1 => ?_⟩
  refine ⟨HF1, γ1, k1, post_bind (r1 := rO G) (post_from later_E s1 p1) fun b γ2 y H2 HF2 k2 s2 r2 p2 => ?_⟩
  have p2 := post_from later_E s2 p2
  cases e1 : look γ2 a with
  | none => rw [e1] at p2; exact p2.elim
  | some d1 =>
    rw [e1] at p2
    cases e2 : look γ2 b with
    | none => rw [e2] at p2; exact p2.elim
    | some d2 =>
      rw [e2] at p2
      have p3 : post (rE G) G W σ γ2 H2 HF2 Q (ofB (f d1 d2) γ2) := p2
      cases e3 : f d1 d2 with
      | none => rw [e3] at p3; exact p3.elim
      | some br =>
        rw [e3] at p3
        exact F k2.sub (look_pk k2 (ArOk.mono s2.mono r1) e1) (look_pk k2 r2 e2) e3 fun v H' bb => br_fin k2 p3 bb
theorem tpe_op {op : Operator} {r : R2} {f : D → D → Option BR} {a b : Expr} {pos : Pos} {ma mb : Gam → Out Ar} (ho : OpR X (binaryOp op) r) (F : OpOk G r f) (ha : PE X a (tO G W ma)) (hb : PE X b (tO G W mb)) : PE X (.BinOp a op b pos) (tE G W (eOp f ma mb)) :=
  ⟨fun pins s σ H Q I h => (pe_op ho ha hb).run pins s σ H Q I (te_op F h)⟩
theorem tpe_cmp {op : CmpOp} {r : R2} {f : D → D → Option BR} {a b : Expr} {pos : Pos} {ma mb : Gam → Out Ar} (ho : OpR X (compareOp op) r) (F : OpOk G r f) (ha : PE X a (tO G W ma)) (hb : PE X b (tO G W mb)) (hm : behindInMarks op b = false) : PE X (.Compare a [op] [b] pos) (tE G W (eOp f ma mb)) :=
  ⟨fun pins s σ H Q I h => (pe_cmpR ho ha hb hm).run pins s σ H Q I (te_op F h)⟩
/-- a bool told -/
def toT (m : Gam → Out R) : Gam → Out Bool := fun γ => (m γ).bind fun r γ1 => match r with
  | .fz (.bl b) => .ok b γ1
  | _ => .bad
theorem tt_of {m : Gam → Out R} {Q : Bool → Hp → Prop} (h : tT G W (toT m) σ H Q) : tE G W m σ H fun x H' => ∃ k, x = .bl k ∧ Q k H' := by
  obtain ⟨HF, γ, k, p⟩ := h
  refine ⟨HF, γ, k, post_bind (r1 := rE G) p fun r γ1 x H1 HF1 k1 s1 r1 p1 => ?_⟩
  cases r with
  | own d => exact p1.elim
  | fz d =>
    cases d with
    | bl b =>
      have e : x = .bl b := r1
      exact ⟨b, e, p1 b H1 HF1 k1 s1 rfl⟩
    | _ => exact p1.elim
theorem tpt_cmp {op : CmpOp} {r : R2} {f : D → D → Option BR} {a b : Expr} {pos : Pos} {ma mb : Gam → Out Ar} (ho : OpR X (compareOp op) r) (F : OpOk G r f) (ha : PE X a (tO G W ma)) (hb : PE X b (tO G W mb)) (hm : behindInMarks op b = false) : PT X (.Compare a [op] [b] pos) (tT G W (toT (eOp f ma mb))) :=
  ⟨fun pins s σ H Q I h => (pt_cmpR ho ha hb hm).run pins s σ H Q I (te_op F (tt_of h))⟩
theorem tpt_val {e : Expr} {m : Gam → Out R} (h : PE X e (tE G W m)) (he : ∀ whole, isTrue e X.env whole = (do let v ← whole; standAt e.pos; holding [v] (truthy v))) : PT X e (tT G W (toT m)) :=
  ⟨fun pins s σ H Q I hw => (pt_val h he).run pins s σ H Q I (tt_of hw)⟩

def CallOk (G : Tab) (r : List V → Hp → VK → Prop) (f : List D → Option BR) : Prop := ∀ {H HF : Hp} {xs : List V} {ds : List D} {br : BR} {Q : VK}, Sub HF H → Pks G HF H ds xs → f ds = some br → (∀ v H', BRes G HF H br v H' → Q v H') → r xs H Q
def eCall (f : List D → Option BR) (ms : Gam → Out (List Ar)) : Gam → Out R := fun γ => (ms γ).bind fun as γ1 => match looks γ1 as with
  | some ds => ofB (f ds) γ1
  | none => .bad
theorem te_call {r : List V → Hp → VK → Prop} {f : List D → Option BR} (F : CallOk G r f) {ms : Gam → Out (List Ar)} {Q : VK} (h : tE G W (eCall f ms) σ H Q) : tCB r (tA G W ms) σ H Q := by
  obtain ⟨HF, γ, k, p⟩ := h
  refine ⟨HF, γ, k, post_bind (r1 := rA G) p fun as γ1 xs H1 HF1 k1 s1 r1 p1 => ?_⟩
  have p2 := post_from later_E s1 p1
  cases e1 : looks γ1 as with
  | none => rw [e1] at p2; exact p2.elim
  | some ds =>
    rw [e1] at p2
    have p3 : post (rE G) G W σ γ1 H1 HF1 Q (ofB (f ds) γ1) := p2
    cases e3 : f ds with
    | none => rw [e3] at p3; exact p3.elim
    | some br =>
      rw [e3] at p3
      exact F k1.sub (looks_pk k1 r1 e1) e3 fun v H' bb => br_fin k1 p3 bb
theorem tpe_callB {id : String} {x : Str} {p pos : Pos} {e : Expr} {es : List Expr} {r : List V → Hp → VK → Prop} {f : List D → Option BR} {ms : Gam → Out (List Ar)} (hc : CallR X (.builtin id) r) (F : CallOk G r f) (hg : Gl X x) (hm : X.mg x = none) (hv : bootBuiltins x = some (.builtin id)) (ha : PA X (e :: es) (tA G W ms)) (hn : x ≠ "__name__") (hdb : (x == ("__debug__" : Str)) = false)
    (he : starEach (e :: es) X.env = (false, eval e X.env) :: starEach es X.env) (hpl : (backTo pos (starEach es X.env)).any (·.1) = false) : PE X (.Call (.Name x p) (e :: es) [] pos) (tE G W (eCall f ms)) :=
  ⟨fun pins s σ H Q I h => (pe_callB hc hg hm hv ha hn hdb he hpl).run pins s σ H Q I (te_call F h)⟩
theorem tpe_callTy {T : String} {x : Str} {p pos : Pos} {e : Expr} {es : List Expr} {r : List V → Hp → VK → Prop} {f : List D → Option BR} {ms : Gam → Out (List Ar)} (hc : CallR X (.type T) r) (F : CallOk G r f) (hg : Gl X x) (hm : X.mg x = none) (hv : bootBuiltins x = some (.type T)) (ha : PA X (e :: es) (tA G W ms)) (hn : x ≠ "__name__") (hdb : (x == ("__debug__" : Str)) = false)
    (he : starEach (e :: es) X.env = (false, eval e X.env) :: starEach es X.env) (hpl : (backTo pos (starEach es X.env)).any (·.1) = false) : PE X (.Call (.Name x p) (e :: es) [] pos) (tE G W (eCall f ms)) :=
  ⟨fun pins s σ H Q I h => (pe_callTy hc hg hm hv ha hn hdb he hpl).run pins s σ H Q I (te_call F h)⟩
/-- a constant -/
def eC (d : D) : Gam → Out R := fun γ => .ok (.fz d) γ
def flatD : D → Option V
  | .non => some .non | .bl b => some (.bl b) | .int i => some (.int i) | .str x => some (.str x) | .ty n => some (.ty n) | _ => none
theorem flat_rep {d : D} {v : V} (h : flatD d = some v) : Rep G HF d v := by
  cases d <;> cases h <;> (unfold Rep; rfl)
theorem tpe_c {e : Expr} {d : D} {v : V} (h : PE X e (tC v)) (f : flatD d = some v) : PE X e (tE G W (eC d)) :=
  ⟨fun pins s σ H Q I hw => h.run pins s σ H Q I (by
    obtain ⟨HF, γ, k, p⟩ := hw
    exact p v H HF k .refl (flat_rep f))⟩
end
end T

-- text T3
set_option Elab.async false
set_option linter.all false
set_option maxRecDepth 100000
set_option maxHeartbeats 4000000
namespace T
open PySem L2
section
variable {X : Cx} {G : Tab} {W : Wt} {σ : L2.St} {H HF HF' : Hp} {γ : Gam} {E : Ends}

def sNx : Gam → OutS := fun γ => .nx γ
theorem ts_nil (h : tS G W sNx E σ H) : tNext E σ H := by
  obtain ⟨HF, γ, k, p⟩ := h
  exact p σ H HF k .refl
def sSeq (a b : Gam → OutS) : Gam → OutS := fun γ => match a γ with
  | .nx γ1 => b γ1
  | o => o
theorem ts_seq {a b : Gam → OutS} (h : tS G W (sSeq a b) E σ H) : tSeq (tS G W a) (tS G W b) E σ H := by
  obtain ⟨HF, γ, k, p⟩ := h
  refine ⟨HF, γ, k, ?_⟩
  unfold sSeq at p
  cases e : a γ with
  | nx γ1 =>
    rw [e] at p
    intro σ' H' HF' k1 s1
    exact ⟨HF', γ1, k1, postS_from s1 p⟩
  | rt r γ1 => rw [e] at p; exact p
  | bk γ1 => rw [e] at p; exact p
  | ct γ1 => rw [e] at p; exact p
  | er x γ1 => rw [e] at p; exact p
  | bad => rw [e] at p; exact p
theorem tps_nil : PSs X [] (tS G W sNx) := ⟨fun pins s σ H D I h => pss_nil.run pins s σ H D I (ts_nil h)⟩
theorem tps_cons {st : Stmt} {rest : List Stmt} {a b : Gam → OutS} (h1 : PS X st (tS G W a)) (h2 : PSs X rest (tS G W b)) : PSs X (st :: rest) (tS G W (sSeq a b)) := ⟨fun pins s σ H D I h => (pss_cons h1 h2).run pins s σ H D I (ts_seq h)⟩

def sRet (m : Gam → Out R) : Gam → OutS := fun γ => (m γ).toS fun r γ1 => .rt r γ1
theorem ts_ret {m : Gam → Out R} (h : tS G W (sRet m) E σ H) : tRet (tE G W m) E σ H := by
  obtain ⟨HF, γ, k, p⟩ := h
  exact ⟨HF, γ, k, postS_bind (r1 := rE G) p fun r γ1 v H1 HF1 k1 s1 r1 p1 => p1 σ v H1 HF1 k1 s1 r1⟩
theorem tps_ret {e : Expr} {pos : Pos} {m : Gam → Out R} (he : PE X e (tE G W m)) : PS X (.Return (some e) pos) (tS G W (sRet m)) := ⟨fun pins s σ H D I h => (ps_ret he).run pins s σ H D I (ts_ret h)⟩
def sRetN : Gam → OutS := fun γ => .rt (.fz .non) γ
theorem tps_retN {pos : Pos} : PS X (.Return none pos) (tS G W sRetN) := ⟨fun pins s σ H D I h => ps_retN.run pins s σ H D I (by
  obtain ⟨HF, γ, k, p⟩ := h
  exact p σ .non H HF k .refl (flat_rep (G := G) (HF := HF) (d := .non) (v := .non) rfl))⟩
def sExpr (m : Gam → Out R) : Gam → OutS := fun γ => (m γ).toS fun _ γ1 => .nx γ1
theorem tps_expr {e : Expr} {pos : Pos} {m : Gam → Out R} (he : PE X e (tE G W m)) (hs : swapsWith e none pos.line X.env = pure false) : PS X (.Expr e pos) (tS G W (sExpr m)) := ⟨fun pins s σ H D I h => (ps_expr he hs).run pins s σ H D I (by
  obtain ⟨HF, γ, k, p⟩ := h
  exact ⟨HF, γ, k, postS_bind (r1 := rE G) p fun r γ1 v H1 HF1 k1 s1 r1 p1 => p1 σ H1 HF1 k1 s1⟩)⟩
theorem tps_pass {pos : Pos} : PS X (.Pass pos) (tS G W sNx) := ⟨fun pins s σ H D I h => ps_pass.run pins s σ H D I (ts_nil h)⟩
def sBk : Gam → OutS := fun γ => .bk γ
def sCt : Gam → OutS := fun γ => .ct γ
theorem tps_break {pos : Pos} : PS X (.Break pos) (tS G W sBk) := ⟨fun pins s σ H D I h => ps_break.run pins s σ H D I (by
  obtain ⟨HF, γ, k, p⟩ := h
  exact p σ H HF k .refl)⟩
theorem tps_continue {pos : Pos} : PS X (.Continue pos) (tS G W sCt) := ⟨fun pins s σ H D I h => ps_continue.run pins s σ H D I (by
  obtain ⟨HF, γ, k, p⟩ := h
  exact p σ H HF k .refl)⟩
def sBad : Gam → OutS := fun _ => .bad
theorem tps_never {st : Stmt} : PS X st (tS G W sBad) := ⟨fun pins s σ H D I h => by
  obtain ⟨HF, γ, k, p⟩ := h
  exact p.elim⟩
def sIf (c : Gam → Out Bool) (a b : Gam → OutS) : Gam → OutS := fun γ => (c γ).toS fun v γ1 => if v = true then a γ1 else b γ1
theorem tps_if {c : Expr} {as bs : List Stmt} {pos : Pos} {m : Gam → Out Bool} {a b : Gam → OutS} (hc : PT X c (tT G W m)) (ha : PSs X as (tS G W a)) (hb : PSs X bs (tS G W b)) : PS X (.If c as bs pos) (tS G W (sIf m a b)) := ⟨fun pins s σ H D I h => (ps_if hc ha hb).run pins s σ H D I (by
  obtain ⟨HF, γ, k, p⟩ := h
  refine ⟨HF, γ, k, postS_bind (r1 := rT) p fun v γ1 v' H1 HF1 k1 s1 e p1 => ?_⟩
  cases e
  cases v with
  | true => exact ⟨HF1, γ1, k1, postS_from s1 p1⟩
  | false => exact ⟨HF1, γ1, k1, postS_from s1 p1⟩)⟩

/-! storing into a name -/
def R.sl : R → Sl
  | .fz d => .fz d
  | .own d => .own d
def stG (i : Nat) (s : Sl) (γ : Gam) : Option Gam := match γ[i]? with
  | some t => (match t.isIo with
    | true => none
    | false => some (γ.set i s))
  | none => none
theorem stG_some {i : Nat} {s : Sl} {γ γ' : Gam} (h : stG i s γ = some γ') : γ' = γ.set i s ∧ i < γ.length ∧ ∃ t, γ[i]? = some t ∧ t.isIo = false := by
  unfold stG at h
  cases e : γ[i]? with
  | none => rw [e] at h; cases h
  | some t =>
    rw [e] at h
    cases q : t.isIo with
    | true => simp only [q] at h; cases h
    | false =>
      simp only [q] at h
      cases h
      exact ⟨rfl, (List.getElem?_eq_some_iff.mp e).1, t, rfl, q⟩
theorem ownAt_set {σ : L2.St} {γ : Gam} {i j : Nat} {v : V} {s : Sl} {a : Addr} (h : OwnAt (σ.set i (some v)) (γ.set i s) j a) : (j = i ∧ s.owns = true ∧ v = .ref a) ∨ (j ≠ i ∧ OwnAt σ γ j a) := by
  obtain ⟨⟨t, e, w⟩, q⟩ := h
  rcases getE_set e with ⟨rfl, rfl, _⟩ | ⟨n, e⟩
  · rcases getE_set q with ⟨_, q, _⟩ | ⟨n, _⟩
    · injection q with q
      exact .inl ⟨rfl, w, q.symm⟩
    · exact absurd rfl n
  · rcases getE_set q with ⟨rfl, _, _⟩ | ⟨_, q⟩
    · exact absurd rfl n
    · exact .inr ⟨n, ⟨⟨t, e, w⟩, q⟩⟩
/-- a result is stored into slot i -/
theorem store_res {σ : L2.St} {γ γ1 γ2 : Gam} {H HF H1 HF1 : Hp} {i : Nat} {r : R} {v : V} (k : Ok G σ H1 HF1 γ1) (s : Stp σ γ H HF σ γ1 H1 HF1) (rr : ROk2 G σ γ H σ γ1 H1 HF1 r v) (e : stG i r.sl γ1 = some γ2) :
    Ok G (σ.set i (some v)) H1 HF1 γ2 ∧ Stp σ γ H HF (σ.set i (some v)) γ2 H1 HF1 := by
  obtain ⟨rfl, hi, t, et, nt⟩ := stG_some e
  have hσ : i < σ.length := by rw [k.len]; exact hi
  have ow : ∀ {j a}, OwnAt (σ.set i (some v)) (γ1.set i r.sl) j a → (j = i ∧ ∃ d, r = .own d ∧ v = .ref a) ∨ (j ≠ i ∧ OwnAt σ γ1 j a) := fun {j a} h => by
    rcases ownAt_set h with ⟨h1, h2, h3⟩ | h
    · cases r with
      | fz d => cases h2
      | own d => exact .inl ⟨h1, d, rfl, h3⟩
    · exact .inr h
  refine ⟨⟨k.sub, by rw [List.length_set, List.length_set]; exact k.len, fun j s' ej => ?_, fun j l a h1 h2 => ?_⟩, ⟨s.mono, s.frame, fun j b h => ?_, fun j s' ej w => ?_⟩⟩
  · rcases getE_set ej with ⟨rfl, rfl, _⟩ | ⟨n, ej⟩
    · rw [List.getElem?_set_self hσ]
      cases r with
      | fz d => exact ⟨v, rfl, rr⟩
      | own d =>
        obtain ⟨a, ea, o, _⟩ := rr
        exact ⟨a, by rw [ea]; rfl, o⟩
    · rw [List.getElem?_set_ne (Ne.symm n)]
      exact k.sl j s' ej
  · have q1 := ow h1
    have q2 := ow h2
    clear h1 h2
    rcases q1 with ⟨e1, d, ed, ev⟩ | ⟨n1, q1⟩
    · rcases q2 with ⟨e2, _⟩ | ⟨n2, q2⟩
      · exact e1.trans e2.symm
      · subst ed
        obtain ⟨b, eb, o, n, _⟩ := rr
        rw [ev] at eb
        cases eb
        exact absurd q2 (n l)
    · rcases q2 with ⟨e2, d, ed, ev⟩ | ⟨n2, q2⟩
      · subst ed
        obtain ⟨b, eb, o, n, _⟩ := rr
        rw [ev] at eb
        cases eb
        exact absurd q1 (n j)
      · exact k.dis j l a q1 q2
  · rcases ow h with ⟨rfl, d, rfl, rfl⟩ | ⟨n, h⟩
    · obtain ⟨c, ec, _, _, w⟩ := rr
      cases ec
      exact w.symm
    · exact s.own j b h
  · obtain ⟨⟨s1, e1, w1⟩, q⟩ := s.io j s' ej w
    have n : j ≠ i := fun z => by subst z; rw [et] at e1; cases e1; rw [nt] at w1; cases w1
    exact ⟨⟨s1, by rw [List.getElem?_set_ne (Ne.symm n)]; exact e1, w1⟩, by rw [List.getElem?_set_ne (Ne.symm n)]⟩
def nxO (o : Option Gam) : OutS := match o with
  | some γ => .nx γ
  | none => .bad
def sSet (i : Nat) (m : Gam → Out R) : Gam → OutS := fun γ => (m γ).toS fun r γ1 => nxO (stG i r.sl γ1)
theorem ts_set {i : Nat} {m : Gam → Out R} (h : tS G W (sSet i m) E σ H) : tAsg (tE G W m) (gName i) E σ H := by
  obtain ⟨HF, γ, k, p⟩ := h
  refine ⟨HF, γ, k, postS_bind (r1 := rE G) p fun r γ1 v H1 HF1 k1 s1 r1 p1 => ?_⟩
  cases e : stG i r.sl γ1 with
  | none => rw [e] at p1; exact p1.elim
  | some γ2 =>
    rw [e] at p1
    obtain ⟨k2, s2⟩ := store_res k1 s1 r1 e
    exact p1 _ H1 HF1 k2 s2
theorem tps_set {i : Nat} {x : Str} {e : Expr} {pos pos' : Pos} {m : Gam → Out R} (hN : X.N.Nodup) (hi : X.N[i]? = some x) (hx : Loc X.env.scope x) (he : PE X e (tE G W m)) (hs : swapsWith e (some (.Name x pos')) pos.line X.env = pure false) (hf : X.fn x = true ∨ X.env.scope.names.lookup x = some .local) :
    PS X (.Assign [.Name x pos'] e pos) (tS G W (sSet i m)) := ⟨fun pins s σ H D I h => (ps_set hN hi hx he hs hf).run pins s σ H D I (ts_set h)⟩

/-! targets: S: the slots that are written -/
def Agree (S : List Nat) (σ σ' : L2.St) : Prop := σ'.length = σ.length ∧ ∀ j, j ∉ S → σ'[j]? = σ[j]?
theorem Agree.trans {S S' : List Nat} {σ σ1 σ2 : L2.St} (a : Agree S σ σ1) (b : Agree S' σ1 σ2) : Agree (S ++ S') σ σ2 :=
  ⟨b.1.trans a.1, fun j h => (b.2 j fun z => h (List.mem_append_right _ z)).trans (a.2 j fun z => h (List.mem_append_left _ z))⟩
def tgt (G : Tab) (S : List Nat) (f : D → Gam → Option Gam) : TG := fun v σ H Q => ∃ HF γ d, Ok G σ H HF γ ∧ Rep G HF d v ∧ match f d γ with
  | some γ' => ∀ σ', Ok G σ' H HF γ' → Stp σ γ H HF σ' γ' H HF → Agree S σ σ' → Q σ' H
  | none => False
def tgts (G : Tab) (S : List Nat) (f : List D → Gam → Option Gam) : TGs := fun vs σ H Q => ∃ HF γ ds, Ok G σ H HF γ ∧ RepL G HF ds vs ∧ match f ds γ with
  | some γ' => ∀ σ', Ok G σ' H HF γ' → Stp σ γ H HF σ' γ' H HF → Agree S σ σ' → Q σ' H
  | none => False
def gNm (i : Nat) : D → Gam → Option Gam := fun d γ => stG i (.fz d) γ
def gTp (n : Nat) (f : List D → Gam → Option Gam) : D → Gam → Option Gam := fun d γ => match d with
  | .tup ds => (match ds.length == n with
    | true => f ds γ
    | false => none)
  | _ => none
def gsNil : List D → Gam → Option Gam := fun ds γ => match ds with
  | [] => some γ
  | _ => none
def gsCons (f : D → Gam → Option Gam) (g : List D → Gam → Option Gam) : List D → Gam → Option Gam := fun ds γ => match ds with
  | d :: r => (match f d γ with
    | some γ1 => g r γ1
    | none => none)
  | [] => none
theorem tg_name {i : Nat} {v : V} {Q : L2.St → Hp → Prop} (h : tgt G [i] (gNm i) v σ H Q) : gName i v σ H Q := by
  obtain ⟨HF, γ, d, k, r, p⟩ := h
  cases e : gNm i d γ with
  | none => rw [e] at p; exact p.elim
  | some γ' =>
    rw [e] at p
    obtain ⟨k2, s2⟩ := store_res (r := .fz d) k .refl r e
    exact p _ k2 s2 ⟨by rw [List.length_set], fun j h => by rw [List.getElem?_set_ne]; rintro rfl; exact h (by simp)⟩
theorem tpg_name {i : Nat} {x : Str} {pos : Pos} (hN : X.N.Nodup) (hi : X.N[i]? = some x) (hx : Loc X.env.scope x) (hf : X.fn x = true ∨ X.env.scope.names.lookup x = some .local) : PG X (.Name x pos) (tgt G [i] (gNm i)) :=
  ⟨fun pins s σ H v u Q I r h => (pg_name hN hi hx hf).run pins s σ H v u Q I r (tg_name h)⟩
theorem tpgs_nil : PGs X [] (tgts G [] gsNil) := ⟨fun pins s σ H vs us Q I r h => pgs_nil.run pins s σ H vs us Q I r (by
  obtain ⟨HF, γ, ds, k, rr, p⟩ := h
  cases ds with
  | cons d ds => exact p.elim
  | nil =>
    unfold RepL at rr
    exact ⟨rr, p σ k .refl ⟨rfl, fun _ _ => rfl⟩⟩)⟩
theorem tpgs_cons {S S' : List Nat} {e : Expr} {es : List Expr} {f : D → Gam → Option Gam} {g : List D → Gam → Option Gam} (h1 : PG X e (tgt G S f)) (h2 : PGs X es (tgts G S' g)) (hs : (assignEach (e :: es) X.env).map (·.2) = assign e X.env :: (assignEach es X.env).map (·.2)) : PGs X (e :: es) (tgts G (S ++ S') (gsCons f g)) :=
  ⟨fun pins s σ H vs us Q I r h => (pgs_cons h1 h2 hs).run pins s σ H vs us Q I r (by
    obtain ⟨HF, γ, ds, k, rr, p⟩ := h
    cases ds with
    | nil => exact p.elim
    | cons d ds =>
      unfold RepL at rr
      obtain ⟨v, vr, e, r1, r2⟩ := rr
      refine ⟨v, vr, e, HF, γ, d, k, r1, ?_⟩
      unfold gsCons at p
      simp only at p
      cases q : f d γ with
      | none => rw [q] at p; exact p.elim
      | some γ1 =>
        rw [q] at p
        intro σ1 k1 s1 a1
        refine ⟨HF, γ1, ds, k1, r2, ?_⟩
        cases q2 : g ds γ1 with
        | none => simp only [q2] at p
        | some γ2 =>
          simp only [q2] at p
          exact fun σ2 k2 s2 a2 => p σ2 k2 (s1.trans s2) (a1.trans a2))⟩
end
end T

-- text T4
set_option Elab.async false
set_option linter.all false
set_option maxRecDepth 100000
set_option maxHeartbeats 4000000
namespace T
open PySem L2
section
variable {X : Cx} {G : Tab} {W : Wt} {σ : L2.St} {H HF HF' : Hp} {γ : Gam} {E : Ends}
theorem beqN {a b : Nat} (h : (a == b) = true) : a = b := by simpa using h
theorem tpg_tup {S : List Nat} {es : List Expr} {kk n : Nat} {pos : Pos} {f : List D → Gam → Option Gam} (hK : G.K = X.K) (hc : X.calm = true) (h : PGs X es (tgts G S f)) (hn : (assignEach es X.env).length = n) (hst : (assignEach es X.env).findIdx? (·.1) = none) :
    PG X (.Tuple es kk pos) (tgt G S (gTp n f)) :=
  ⟨fun pins s σ H v u Q I r hw => (pg_tup hc h hn hst).run pins s σ H v u Q I r (by
    obtain ⟨HF, γ, d, k, rr, p⟩ := hw
    cases d with
    | tup ds =>
      unfold gTp at p
      simp only at p
      cases q : ds.length == n with
      | false => simp only [q] at p
      | true =>
        simp only [q] at p
        unfold Rep at rr
        obtain ⟨a, xs, e, sq, rl⟩ := rr
        refine ⟨a, xs, e, by rw [← hK]; exact SqT.mono k.sub sq, by rw [rl.length]; exact beqN q, HF, γ, ds, k, rl, p⟩
    | _ => exact p.elim)⟩

/-! what is walked -/
def Wk (G : Tab) (items : List D) (J : It) (HF0 : Hp) : Prop := ∀ HF H, Sub HF0 HF → Sub HF H →
  (∀ i, i < items.length → J.go i H ∧ ∀ x H', J.yld i H x H' → ∃ d, items[i]? = some d ∧ ((H' = H ∧ Rep G HF d x) ∨ ∃ T xs ds, x = .ref T ∧ H T = none ∧ H' = upd H T (.tup xs) ∧ d = .tup ds ∧ RepL G HF ds xs)) ∧ J.stop items.length H
def rI (G : Tab) : RelK (List D) It := fun _ _ _ _ _ HF' items J => Wk G items J HF'
abbrev tI (G : Tab) (W : Wt) (m : Gam → Out (List D)) : TI := tM (rI G) G W m
theorem wk_of {items : List D} {J : It} {n : Nat} {Gd : Hp → Prop} {Y : Nat → Hp → V → Hp → Prop} {HF0 : Hp} (w : Walk J n Gd Y) (hn : n = items.length) (hg : ∀ HF H, Sub HF0 HF → Sub HF H → Gd H)
    (hy : ∀ HF H i x H', Sub HF0 HF → Sub HF H → i < n → Y i H x H' → ∃ d, items[i]? = some d ∧ ((H' = H ∧ Rep G HF d x) ∨ ∃ T xs ds, x = .ref T ∧ H T = none ∧ H' = upd H T (.tup xs) ∧ d = .tup ds ∧ RepL G HF ds xs)) : Wk G items J HF0 := fun HF H a b => by
  subst hn
  exact ⟨fun i hi => ⟨w.goes i H hi (hg HF H a b), fun x H' y => hy HF H i x H' a b hi (w.yields i H x H' hi (hg HF H a b) y)⟩, w.stops H (hg HF H a b)⟩

/-! for -/
def loopS (f : D → Gam → Option Gam) (b : Gam → OutS) : List D → Gam → OutS
  | [], γ => .nx γ
  | d :: ds, γ => match f d γ with
    | some γ1 => (match b γ1 with
      | .nx γ2 => loopS f b ds γ2
      | .ct γ2 => loopS f b ds γ2
      | .bk γ2 => .nx γ2
      | .rt r γ2 => .rt r γ2
      | .er x γ2 => .er x γ2
      | .bad => .bad)
    | none => .bad
def sFor (mi : Gam → Out (List D)) (f : D → Gam → Option Gam) (b : Gam → OutS) : Gam → OutS := fun γ => (mi γ).toS fun items γ1 => loopS f b items γ1
/-- what is yielded is there -/
theorem yld_ok {d : D} {x : V} {H H' : Hp} (k : Ok G σ H HF γ) (h : (H' = H ∧ Rep G HF d x) ∨ ∃ T xs ds, x = .ref T ∧ H T = none ∧ H' = upd H T (.tup xs) ∧ d = .tup ds ∧ RepL G HF ds xs) :
    ∃ HF2, Ok G σ H' HF2 γ ∧ Stp σ γ H HF σ γ H' HF2 ∧ Rep G HF2 d x := by
  rcases h with ⟨rfl, r⟩ | ⟨T, xs, ds, rfl, n, rfl, rfl, r⟩
  · exact ⟨HF, k, .refl, r⟩
  · exact ⟨_, k.laidF n, .laidF k n, rep_newT (k.hf_none n) r⟩
theorem ts_for {S : List Nat} {mi : Gam → Out (List D)} {f : D → Gam → Option Gam} {b : Gam → OutS} (h : tS G W (sFor mi f b) E σ H) : tFor (tI G W mi) (tgt G S f) (tS G W b) E σ H := by
  obtain ⟨HF, γ, k, p⟩ := h
  refine ⟨HF, γ, k, postS_bind (r1 := rI G) p fun items γ1 J H1 HF1 k1 s1 wk p1 => ?_⟩
  refine ⟨fun i m σ' H' => m = items.length - i ∧ i ≤ items.length ∧ ∃ HF' γ', Ok G σ' H' HF' γ' ∧ Sub HF1 HF' ∧ postS G W σ' γ' H' HF' E (loopS f b (items.drop i) γ'), ⟨_, rfl, Nat.zero_le _, HF1, γ1, k1, Sub.refl _, postS_from s1 p1⟩, ?_⟩
  rintro i m σ' H' ⟨rfl, hi, HF', γ', k', m', p'⟩
  obtain ⟨w1, w2⟩ := wk HF' H' m' k'.sub
  by_cases hlt : i < items.length
  · refine .inr ⟨(w1 i hlt).1, fun σ3 H3 => i + 1 ≤ items.length ∧ ∃ HF3 γ3, Ok G σ3 H3 HF3 γ3 ∧ Sub HF1 HF3 ∧ postS G W σ3 γ3 H3 HF3 E (loopS f b (items.drop (i + 1)) γ3), fun σ3 H3 q => ⟨items.length - (i + 1), by omega, rfl, q⟩, fun x H'' y => ?_⟩
    obtain ⟨d, ed, yy⟩ := (w1 i hlt).2 x H'' y
    obtain ⟨HF2, k2, s2, r2⟩ := yld_ok k' yy
    have edr : items.drop i = d :: items.drop (i + 1) := by
      rw [List.drop_eq_getElem_cons hlt]
      rw [List.getElem?_eq_getElem hlt] at ed
      cases ed
      rfl
    rw [edr] at p'
    unfold loopS at p'
    refine ⟨HF2, γ', d, k2, r2, ?_⟩
    cases q : f d γ' with
    | none => rw [q] at p'; exact p'.elim
    | some γ2 =>
      rw [q] at p'
      intro σ4 k4 s4 _
      refine ⟨HF2, γ2, k4, ?_⟩
      have mm : Sub HF1 HF2 := m'.trans s2.mono
      have p4 := postS_from (s2.trans s4) p'
      simp only at p4
      cases qb : b γ2 with
      | nx γ3 =>
        rw [qb] at p4
        exact fun σ5 H5 HF5 k5 s5 => ⟨hlt, HF5, γ3, k5, mm.trans s5.mono, postS_from s5 p4⟩
      | ct γ3 =>
        rw [qb] at p4
        exact fun σ5 H5 HF5 k5 s5 => ⟨hlt, HF5, γ3, k5, mm.trans s5.mono, postS_from s5 p4⟩
      | bk γ3 => rw [qb] at p4; exact p4
      | rt r γ3 => rw [qb] at p4; exact p4
      | er x γ3 => rw [qb] at p4; exact p4
      | bad => rw [qb] at p4; exact p4.elim
  · have e : i = items.length := by omega
    subst e
    refine .inl ⟨w2, ?_⟩
    rw [List.drop_length] at p'
    exact p' σ' H' HF' k' .refl
theorem tps_for {S : List Nat} {tg iter : Expr} {body : List Stmt} {pos : Pos} {mi : Gam → Out (List D)} {f : D → Gam → Option Gam} {b : Gam → OutS} (hp : PassesOwn (model X.prog X.w) X.A X.env X.xe) (hc : X.calm = true) (hi : PI X tg iter (tI G W mi)) (hg : PG X tg (tgt G S f)) (hb : PSs X body (tS G W b))
    (hs : ∀ x, foldedSetIterable iter X.env x = pure x) : PS X (.For tg iter body [] pos) (tS G W (sFor mi f b)) := ⟨fun pins s σ H D I h => (ps_for hp hc hi hg hb hs).run pins s σ H D I (ts_for h)⟩

/-! while -/
def sWhile (c : Gam → Out Bool) (b : Gam → OutS) : Nat → Gam → OutS
  | 0, _ => .bad
  | n + 1, γ => (c γ).toS fun v γ1 => if v = true then (match b γ1 with
      | .nx γ2 => sWhile c b n γ2
      | .ct γ2 => sWhile c b n γ2
      | .bk γ2 => .nx γ2
      | .rt r γ2 => .rt r γ2
      | .er x γ2 => .er x γ2
      | .bad => .bad) else .nx γ1
theorem ts_while {c : Gam → Out Bool} {b : Gam → OutS} {n : Nat} (h : tS G W (sWhile c b n) E σ H) : tWhile (tT G W c) (tS G W b) E σ H := by
  obtain ⟨HF, γ, k, p⟩ := h
  refine ⟨fun m σ' H' => ∃ HF' γ', Ok G σ' H' HF' γ' ∧ postS G W σ' γ' H' HF' E (sWhile c b m γ'), ⟨n, HF, γ, k, p⟩, ?_⟩
  rintro m σ' H' ⟨HF', γ', k', p'⟩
  cases m with
  | zero => exact p'.elim
  | succ m =>
    unfold sWhile at p'
    refine ⟨HF', γ', k', postS_bind (r1 := rT) p' fun v γ1 v' H1 HF1 k1 s1 e p1 => ?_⟩
    cases e
    cases v with
    | false => exact p1 σ' H1 HF1 k1 s1
    | true =>
      refine ⟨fun σ3 H3 => ∃ HF3 γ3, Ok G σ3 H3 HF3 γ3 ∧ postS G W σ3 γ3 H3 HF3 E (sWhile c b m γ3), fun σ3 H3 q => ⟨m, Nat.lt_succ_self _, q⟩, HF1, γ1, k1, ?_⟩
      have p4 := postS_from s1 p1
      simp only [if_true] at p4
      cases qb : b γ1 with
      | nx γ3 => rw [qb] at p4; exact fun σ5 H5 HF5 k5 s5 => ⟨HF5, γ3, k5, postS_from s5 p4⟩
      | ct γ3 => rw [qb] at p4; exact fun σ5 H5 HF5 k5 s5 => ⟨HF5, γ3, k5, postS_from s5 p4⟩
      | bk γ3 => rw [qb] at p4; exact p4
      | rt r γ3 => rw [qb] at p4; exact p4
      | er x γ3 => rw [qb] at p4; exact p4
      | bad => rw [qb] at p4; exact p4.elim
theorem tps_while {c : Expr} {body : List Stmt} {pos : Pos} {m : Gam → Out Bool} {b : Gam → OutS} (n : Nat) (hp : PassesOwn (model X.prog X.w) X.A X.env X.xe) (hc : PT X c (tT G W m)) (hb : PSs X body (tS G W b)) : PS X (.While c body [] pos) (tS G W fun γ => sWhile m b n γ) :=
  ⟨fun pins s σ H D I h => (ps_while hp hc hb).run pins s σ H D I (ts_while h)⟩
end
end T

-- text T5
set_option Elab.async false
set_option linter.all false
set_option maxRecDepth 100000
set_option maxHeartbeats 4000000
namespace T
open PySem L2
section
variable {X : Cx} {G : Tab} {W : Wt} {σ : L2.St} {H HF HF' : Hp} {γ : Gam} {E : Ends}
/-! slots forgotten -/
def unO : List Nat → Gam → Option Gam
  | [], γ => some γ
  | v :: vs, γ => match unO vs γ with
    | some γ1 => stG v .un γ1
    | none => none
structure UnO (vs : List Nat) (γ γ1 : Gam) : Prop where
  len : γ1.length = γ.length
  in_ : ∀ (j : Nat) s, j ∈ vs → γ1[j]? = some s → s = .un
  out : ∀ (j : Nat), j ∉ vs → γ1[j]? = γ[j]?
  io : ∀ (j : Nat) s, γ[j]? = some s → s.isIo = true → j ∉ vs
theorem unO_ok : ∀ {vs : List Nat} {γ γ1 : Gam}, unO vs γ = some γ1 → UnO vs γ γ1
  | [], γ, γ1, h => by cases h; exact ⟨rfl, fun j s z => absurd z (by simp), fun _ _ => rfl, fun _ _ _ _ z => absurd z (by simp)⟩
  | v :: vs, γ, γ1, h => by
    unfold unO at h
    cases e : unO vs γ with
    | none => rw [e] at h; cases h
    | some γ0 =>
      rw [e] at h
      have u := unO_ok e
      obtain ⟨rfl, hi, t, et, nt⟩ := stG_some (h : stG v .un γ0 = some γ1)
      refine ⟨by rw [List.length_set]; exact u.len, fun j s hj ej => ?_, fun j hj => ?_, fun j s ej w hj => ?_⟩
      · rcases getE_set ej with ⟨_, rfl, _⟩ | ⟨n, ej⟩
        · rfl
        · exact u.in_ j s ((List.mem_cons.mp hj).resolve_left n) ej
      · have n : j ≠ v := fun z => hj (by rw [z]; exact List.mem_cons_self)
        rw [List.getElem?_set_ne (Ne.symm n)]
        exact u.out j fun z => hj (List.mem_cons_of_mem _ z)
      · rcases List.mem_cons.mp hj with rfl | hj
        · have nv := u.io j s ej w
          rw [u.out j nv, ej] at et
          cases et
          rw [w] at nt; cases nt
        · exact u.io j s ej w hj
theorem UnO.own {vs : List Nat} {γ γ1 : Gam} {σ σ' : L2.St} (u : UnO vs γ γ1) (a : ∀ j, j ∉ vs → σ'[j]? = σ[j]?) {j : Nat} {b : Addr} (h : OwnAt σ' γ1 j b) : j ∉ vs ∧ OwnAt σ γ j b := by
  obtain ⟨⟨s, e, w⟩, q⟩ := h
  have n : j ∉ vs := fun z => by
    have := u.in_ j s z e
    subst this
    cases w
  exact ⟨n, ⟨⟨s, by rw [← u.out j n]; exact e, w⟩, by rw [← a j n]; exact q⟩⟩
/-- slots forgotten, and the values at them changed in any way -/
theorem UnO.ok {vs : List Nat} {γ γ1 : Gam} {σ σ' : L2.St} (u : UnO vs γ γ1) (a : Agree vs σ σ') (k : Ok G σ H HF γ) : Ok G σ' H HF γ1 :=
  ⟨k.sub, by rw [a.1, u.len]; exact k.len, fun j s e => by
    by_cases n : j ∈ vs
    · rw [u.in_ j s n e]; trivial
    · rw [a.2 j n]
      exact k.sl j s (by rw [← u.out j n]; exact e), fun i j b h1 h2 => k.dis i j b (u.own a.2 h1).2 (u.own a.2 h2).2⟩
theorem UnO.stp {vs : List Nat} {γ γ1 : Gam} {σ σ' : L2.St} (u : UnO vs γ γ1) (a : Agree vs σ σ') : Stp σ γ H HF σ' γ1 H HF :=
  ⟨Sub.refl _, fun _ _ _ => ⟨rfl, rfl⟩, fun j b h => .inl ⟨j, (u.own a.2 h).2⟩, fun i s e w => by
    have n := u.io i s e w
    exact ⟨⟨s, by rw [u.out i n]; exact e, w⟩, a.2 i n⟩⟩
theorem wipe_in {σ : L2.St} {i : Nat} : ∀ {vs : List Nat}, i ∈ vs → i < σ.length → (wipe σ vs)[i]? = some none
  | v :: vs, h, hl => by
    unfold wipe
    by_cases e : v = i
    · subst e
      rw [List.getElem?_set_self (by rw [wipe_length]; exact hl)]
    · rw [List.getElem?_set_ne e]
      exact wipe_in ((List.mem_cons.mp h).resolve_left (Ne.symm e)) hl
theorem wipe_agree (σ : L2.St) (vs : List Nat) : Agree vs σ (wipe σ vs) := ⟨wipe_length σ vs, fun j n => wipe_out n⟩
theorem wipe_eq {vs : List Nat} {σ σ' : L2.St} (a : Agree vs σ σ') : wipe σ' vs = wipe σ vs := by
  refine List.ext_getElem? fun j => ?_
  by_cases n : j ∈ vs
  · by_cases hl : j < σ.length
    · rw [wipe_in n hl, wipe_in n (by rw [a.1]; exact hl)]
    · rw [List.getElem?_eq_none (by rw [wipe_length, a.1]; omega), List.getElem?_eq_none (by rw [wipe_length]; omega)]
  · rw [wipe_out n, wipe_out n, a.2 j n]
theorem Agree.symm {S : List Nat} {σ σ' : L2.St} (a : Agree S σ σ') : Agree S σ' σ := ⟨a.1.symm, fun j h => (a.2 j h).symm⟩
theorem Agree.mono {S S' : List Nat} {σ σ' : L2.St} (a : Agree S σ σ') (h : ∀ i ∈ S, i ∈ S') : Agree S' σ σ' := ⟨a.1, fun j n => a.2 j fun z => n (h j z)⟩
theorem Agree.tr {S : List Nat} {σ σ1 σ2 : L2.St} (a : Agree S σ σ1) (b : Agree S σ1 σ2) : Agree S σ σ2 := ⟨b.1.trans a.1, fun j h => (b.2 j h).trans (a.2 j h)⟩

def Wn : Wt := fun _ _ _ _ => False
/-- what raises is not told -/
def Out.bindN {α β : Type} (o : Out α) (f : α → Gam → Out β) : Out β := match o with
  | .ok a γ => f a γ
  | .er _ _ => .bad
  | .bad => .bad
/-- the elements of a comprehension from here on; c: how many there are already -/
def lcGo (vs : List Nat) (f : D → Gam → Option Gam) (t : Gam → Out Bool) (e : Gam → Out Ar) : List D → Nat → Gam → Out (List D)
  | [], _, γ => .ok [] γ
  | d :: ds, c, γ => match f d γ with
    | none => .bad
    | some γ1 => (t γ1).bindN fun b γ2 => match b with
      | true => (e γ2).bindN fun y γ3 => (match y with
        | .d y => (match Nat.blt c 16777216 with
          | true => (match unO vs γ3 with
            | some γ4 => (lcGo vs f t e ds (c + 1) γ4).bind fun ys γ5 => .ok (y :: ys) γ5
            | none => .bad)
          | false => .bad)
        | .sl _ => .bad)
      | false => (match unO vs γ2 with
        | some γ3 => lcGo vs f t e ds c γ3
        | none => .bad)
def eLc (mi : Gam → Out (List D)) (vs : List Nat) (f : D → Gam → Option Gam) (t : Gam → Out Bool) (e : Gam → Out Ar) : Gam → Out R := fun γ => (mi γ).bind fun items γ1 => match unO vs γ1 with
  | some γ2 => (lcGo vs f t e items 0 γ2).bind fun ys γ3 => .ok (.own (.lst ys)) γ3
  | none => .bad
theorem Out.bind_assoc {α β δ : Type} (o : Out α) (f : α → Gam → Out β) (g : β → Gam → Out δ) : (o.bind f).bind g = o.bind fun a γ => (f a γ).bind g := by
  cases o <;> rfl
theorem size_line : sizeLine = 16777216 := by rfl
/-- own things but the list that is made stay -/
theorem Ok.put {σ : L2.St} {H HF : Hp} {γ : Gam} {p : Addr} {o : HO} (k : Ok G σ H HF γ) (n : HF p = none) (w : ∀ j, ¬ OwnAt σ γ j p) : Ok G σ (upd H p o) HF γ :=
  k.keep (fun b u e => by
    rw [upd_ne (fun z => by rw [z, n] at e; cases e)]
    exact k.sub _ _ e) (Sub.refl _) fun i a q => ⟨upd_ne fun z => w i (by rw [← z]; exact q), (k.own q).elim fun _ z => z.2⟩
/-- the list at P is being made since the start (σ, γ1, H1, HF1); the frame now is σc -/
structure Mk (G : Tab) (σ : L2.St) (γ1 : Gam) (H1 HF1 : Hp) (P : Addr) (σc : L2.St) (γ : Gam) (H HF : Hp) (ds : List D) : Prop where
  ok : Ok G σc H HF γ
  stp : Stp σ γ1 H1 HF1 σc γ H HF
  acc : ∃ xs, H P = some (.lst xs) ∧ RepL G HF ds xs
  fz : HF P = none
  no : ∀ j, ¬ OwnAt σc γ j P
/-- the frame goes on -/
theorem Mk.go {σ σc σ2 : L2.St} {γ1 γ γ4 : Gam} {H1 HF1 H HF H4 HF4 : Hp} {P : Addr} {ds : List D} (m : Mk G σ γ1 H1 HF1 P σc γ H HF ds) (k4 : Ok G σ2 H4 HF4 γ4) (s4 : Stp σc γ H HF σ2 γ4 H4 HF4) : Mk G σ γ1 H1 HF1 P σ2 γ4 H4 HF4 ds := by
  obtain ⟨xs, e1, r1⟩ := m.acc
  obtain ⟨f1, f2⟩ := s4.frame P (by rw [e1]; simp) m.no
  refine ⟨k4, m.stp.trans s4, ⟨xs, f1.trans e1, RepL.mono s4.mono _ _ r1⟩, f2.trans m.fz, fun j h => ?_⟩
  rcases s4.own j P h with ⟨i, q⟩ | q
  · exact m.no i q
  · rw [e1] at q; cases q
/-- a turn's work, back at the comprehension's frame -/
theorem Mk.back {σ σc σ2 : L2.St} {γ1 γ γ4 γ5 : Gam} {H1 HF1 H HF H4 HF4 : Hp} {P : Addr} {ds : List D} {vs : List Nat} (m : Mk G σ γ1 H1 HF1 P σc γ H HF ds) (a : Agree vs σc σ2) (k4 : Ok G σ2 H4 HF4 γ4) (s4 : Stp σc γ H HF σ2 γ4 H4 HF4) (u : unO vs γ4 = some γ5) :
    Mk G σ γ1 H1 HF1 P σc γ5 H4 HF4 ds := by
  have uu := unO_ok u
  exact m.go (uu.ok (G := G) a.symm k4) (s4.trans (uu.stp a.symm))
/-- one more element -/
theorem Mk.push {σ σc : L2.St} {γ1 γ : Gam} {H1 HF1 H HF : Hp} {P : Addr} {ds : List D} {xs : List V} {y : V} {d : D} (m : Mk G σ γ1 H1 HF1 P σc γ H HF ds) (n1 : H1 P = none) (e : H P = some (.lst xs)) (r : Rep G HF d y) :
    Mk G σ γ1 H1 HF1 P σc γ (upd H P (.lst (xs ++ [y]))) HF (ds ++ [d]) := by
  obtain ⟨xs', e1, r1⟩ := m.acc
  rw [e] at e1; cases e1
  refine ⟨m.ok.put m.fz m.no, ⟨m.stp.mono, fun b nb q => ?_, m.stp.own, m.stp.io⟩, ⟨_, upd_same, RepL.append r1 (RepL.one r)⟩, m.fz, m.no⟩
  obtain ⟨f1, f2⟩ := m.stp.frame b nb q
  exact ⟨by rw [upd_ne (fun z => nb (by rw [z]; exact n1))]; exact f1, f2⟩
theorem drop_of {α : Type} {l : List α} {i : Nat} {d : α} (hlt : i < l.length) (ed : l[i]? = some d) : l.drop i = d :: l.drop (i + 1) := by
  rw [List.drop_eq_getElem_cons hlt]
  rw [List.getElem?_eq_getElem hlt] at ed
  cases ed
  rfl
def Un (vs : List Nat) (γ : Gam) : Prop := ∀ (j : Nat) s, j ∈ vs → γ[j]? = some s → s = .un
theorem Un.id {vs : List Nat} {γ : Gam} (un : Un vs γ) : UnO vs γ γ := ⟨rfl, un, fun _ _ => rfl, fun j s ej w hj => by
  have := un j s hj ej
  subst this
  cases w⟩
/-- THE LOOP of a comprehension, or of its inner clause -/
theorem lc_loop {vs S : List Nat} {f : D → Gam → Option Gam} {t : Gam → Out Bool} {e : Gam → Out Ar} {Q : VK} {K : List D → Gam → Out R} {Nx : Hp → Prop} {items : List D} {J : It} {P : Addr} {σ σc : L2.St} {γ1 γc : Gam} {H0 HF0 Hc HFc : Hp} {ds0 : List D}
    (hS : ∀ i ∈ S, i ∈ vs) (n1 : H0 P = none) (wk : Wk G items J HFc) (mk : Mk G σ γ1 H0 HF0 P σc γc Hc HFc ds0) (un : Un vs γc) (p : post (rE G) G W σ γ1 H0 HF0 Q ((lcGo vs f t e items ds0.length γc).bind K))
    (fin : ∀ ys γ' H' HF', Mk G σ γ1 H0 HF0 P σc γ' H' HF' (ds0 ++ ys) → Sub HFc HF' → post (rE G) G W σ γ1 H0 HF0 Q (K ys γ') → Nx H') :
    ∃ Wl : Nat → Nat → Hp → Prop, (∃ m, Wl 0 m Hc) ∧ ∀ i m H, Wl i m H → (J.stop i H ∧ Nx H) ∨ (J.go i H ∧ ∃ N1 : Hp → Prop, (∀ H', N1 H' → ∃ m', m' < m ∧ Wl (i + 1) m' H') ∧ ∀ x H', J.yld i H x H' →
      tgt G S f x (wipe σc vs) H' fun σ2 H2 => wipe σ2 vs = wipe σc vs ∧ tT G Wn t σ2 H2 fun b H3 => if b = true then tO G Wn e σ2 H3 fun y H4 => ∃ acc, H4 P = some (.lst acc) ∧ acc.length < sizeLine ∧ N1 (upd H4 P (.lst (acc ++ [y]))) else N1 H3) := by
  refine ⟨fun i m H' => m = items.length - i ∧ i ≤ items.length ∧ ∃ HF' γ' ys, Mk G σ γ1 H0 HF0 P σc γ' H' HF' (ds0 ++ ys) ∧ Sub HFc HF' ∧ Un vs γ' ∧ post (rE G) G W σ γ1 H0 HF0 Q ((lcGo vs f t e (items.drop i) (ds0 ++ ys).length γ').bind fun zs γ3 => K (ys ++ zs) γ3), ⟨_, rfl, Nat.zero_le _, HFc, γc, [], by rw [List.append_nil]; exact mk, Sub.refl _, un, by rw [List.append_nil]; exact p⟩, ?_⟩
  rintro i m H' ⟨rfl, hi, HF', γ', ys, mk', sub', un', p'⟩
  obtain ⟨w1, w2⟩ := wk HF' H' sub' mk'.ok.sub
  by_cases hlt : i < items.length
  · refine .inr ⟨(w1 i hlt).1, fun H3 => i + 1 ≤ items.length ∧ ∃ HF3 γ3 ys3, Mk G σ γ1 H0 HF0 P σc γ3 H3 HF3 (ds0 ++ ys3) ∧ Sub HFc HF3 ∧ Un vs γ3 ∧ post (rE G) G W σ γ1 H0 HF0 Q ((lcGo vs f t e (items.drop (i + 1)) (ds0 ++ ys3).length γ3).bind fun zs γ5 => K (ys3 ++ zs) γ5), fun H3 q => ⟨items.length - (i + 1), by omega, rfl, q⟩, fun x H'' y => ?_⟩
    obtain ⟨d, ed, yy⟩ := (w1 i hlt).2 x H'' y
    obtain ⟨HF2, k2, s2, r2⟩ := yld_ok mk'.ok yy
    rw [drop_of hlt ed] at p'
    unfold lcGo at p'
    have uid := un'.id
    have kw : Ok G (wipe σc vs) H'' HF2 γ' := uid.ok (wipe_agree σc vs) k2
    have sw : Stp σc γ' H' HF' (wipe σc vs) γ' H'' HF2 := s2.trans (uid.stp (wipe_agree σc vs))
    refine ⟨HF2, γ', d, kw, r2, ?_⟩
    cases q : f d γ' with
    | none => rw [q] at p'; exact p'.elim
    | some γ2 =>
      rw [q] at p'
      simp only at p'
      intro σ2 k3 s3 ag
      have ag2 : Agree vs σc σ2 := (wipe_agree σc vs).tr (ag.mono hS)
      refine ⟨by rw [wipe_eq ag2], HF2, γ2, k3, ?_⟩
      have sb : Stp σc γ' H' HF' σ2 γ2 H'' HF2 := sw.trans s3
      cases et : t γ2 with
      | bad => rw [et] at p'; exact p'.elim
      | er x γ3 => rw [et] at p'; exact p'.elim
      | ok b γ3 =>
        rw [et] at p'
        intro b' H3 HF3 k4 s4 eb
        cases eb
        have sc := sb.trans s4
        cases b with
        | false =>
          rw [if_neg (by simp)]
          cases q3 : unO vs γ3 with
          | none => simp only [Out.bindN, q3] at p'; exact p'.elim
          | some γ5 =>
            simp only [Out.bindN, q3] at p'
            exact ⟨hlt, HF3, γ5, ys, mk'.back ag2 k4 sc q3, sub'.trans sc.mono, (unO_ok q3).in_, p'⟩
        | true =>
          rw [if_pos rfl]
          refine ⟨HF3, γ3, k4, ?_⟩
          cases ee : e γ3 with
          | bad => simp only [Out.bindN, ee] at p'; exact p'.elim
          | er x γ4 => simp only [Out.bindN, ee] at p'; exact p'.elim
          | ok y γ4 =>
            simp only [Out.bindN, ee] at p'
            intro v H4 HF4 k5 s5 ry
            cases y with
            | sl j => exact p'.elim
            | d y =>
              simp only at p'
              cases qc : Nat.blt (ds0 ++ ys).length 16777216 with
              | false => simp only [qc] at p'; exact p'.elim
              | true =>
                simp only [qc] at p'
                cases q3 : unO vs γ4 with
                | none => simp only [q3] at p'; exact p'.elim
                | some γ5 =>
                  simp only [q3] at p'
                  have sd := sc.trans s5
                  have mb := mk'.back ag2 k5 sd q3
                  obtain ⟨xs, e1, r1⟩ := mb.acc
                  refine ⟨xs, e1, ?_, hlt, HF4, γ5, ys ++ [y], by rw [← List.append_assoc]; exact mb.push n1 e1 ry, sub'.trans sd.mono, (unO_ok q3).in_, ?_⟩
                  · rw [r1.length, size_line]
                    simpa [Nat.blt_eq] using qc
                  · rw [Out.bind_assoc] at p'
                    simp only [Out.bind, List.length_append, List.length_cons, List.length_nil, List.append_assoc, List.cons_append, List.nil_append, Nat.add_assoc, Nat.zero_add] at p' ⊢
                    exact p'
  · have e : i = items.length := by omega
    subst e
    rw [List.drop_length] at p'
    have p2 : post (rE G) G W σ γ1 H0 HF0 Q (K (ys ++ []) γ') := p'
    rw [List.append_nil] at p2
    exact .inl ⟨w2, fin ys γ' H' HF' mk' sub' p2⟩
theorem te_lc {mi : Gam → Out (List D)} {vs S : List Nat} {f : D → Gam → Option Gam} {t : Gam → Out Bool} {e : Gam → Out Ar} {Q : VK} (hS : ∀ i ∈ S, i ∈ vs) (h : tE G W (eLc mi vs f t e) σ H Q) :
    tLc (tI G W mi) (tgt G S f) (tT G Wn t) (tO G Wn e) vs σ H Q := by
  obtain ⟨HF, γ, k, p⟩ := h
  refine ⟨HF, γ, k, post_bind (r1 := rI G) p fun items γ0 J H0 HF0 k0 s0 wk p0 => ?_⟩
  intro P hP
  cases q0 : unO vs γ0 with
  | none => rw [q0] at p0; exact p0.elim
  | some γ1 =>
  rw [q0] at p0
  have u0 := unO_ok q0
  have a0 : Agree vs σ σ := ⟨rfl, fun _ _ => rfl⟩
  have k1 : Ok G σ H0 HF0 γ1 := u0.ok a0 k0
  have p1 := post_from later_E (s0.trans (u0.stp a0)) p0
  have mk0 : Mk G σ γ1 H0 HF0 P σ γ1 (upd H0 P (.lst [])) HF0 [] := ⟨k1.laid hP, .laid hP, ⟨[], upd_same, .nil⟩, k0.hf_none hP, fun j z => by
    obtain ⟨o, e, _⟩ := k1.own z
    rw [hP] at e; cases e⟩
  refine lc_loop (Nx := fun H => Q (.ref P) H) hS hP wk mk0 u0.in_ p1 fun ys γ' H' HF' mk _ p2 => ?_
  rw [List.nil_append] at mk
  obtain ⟨xs, e1, r1⟩ := mk.acc
  exact p2 (.ref P) H' HF' mk.ok mk.stp ⟨P, rfl, ⟨xs, e1, mk.fz, r1⟩, mk.no, .inl hP⟩

/-! two clauses -/
def lc2Go (vs : List Nat) (f : D → Gam → Option Gam) (t : Gam → Out Bool) (mi1 : Gam → Out (List D)) (vs1 : List Nat) (f1 : D → Gam → Option Gam) (t1 : Gam → Out Bool) (e : Gam → Out Ar) : List D → Nat → Gam → Out (List D)
  | [], _, γ => .ok [] γ
  | d :: ds, c, γ => match f d γ with
    | none => .bad
    | some γ1 => (t γ1).bindN fun b γ2 => match b with
      | true => (mi1 γ2).bindN fun items1 γ3 => (match unO vs1 γ3 with
        | some γ4 => (lcGo vs1 f1 t1 e items1 c γ4).bind fun ys γ5 => (match unO vs γ5 with
          | some γ6 => (lc2Go vs f t mi1 vs1 f1 t1 e ds (c + ys.length) γ6).bind fun zs γ7 => .ok (ys ++ zs) γ7
          | none => .bad)
        | none => .bad)
      | false => (match unO vs γ2 with
        | some γ3 => lc2Go vs f t mi1 vs1 f1 t1 e ds c γ3
        | none => .bad)
def eLc2 (mi : Gam → Out (List D)) (vs : List Nat) (f : D → Gam → Option Gam) (t : Gam → Out Bool) (mi1 : Gam → Out (List D)) (vs1 : List Nat) (f1 : D → Gam → Option Gam) (t1 : Gam → Out Bool) (e : Gam → Out Ar) : Gam → Out R := fun γ => (mi γ).bind fun items γ1 => match unO vs γ1 with
  | some γ2 => (lc2Go vs f t mi1 vs1 f1 t1 e items 0 γ2).bind fun ys γ3 => .ok (.own (.lst ys)) γ3
  | none => .bad
theorem te_lc2 {mi mi1 : Gam → Out (List D)} {vs vs1 S S1 : List Nat} {f f1 : D → Gam → Option Gam} {t t1 : Gam → Out Bool} {e : Gam → Out Ar} {Q : VK} (hS : ∀ i ∈ S, i ∈ vs) (hS1 : ∀ i ∈ S1, i ∈ vs1) (h1 : ∀ i ∈ vs1, i ∈ vs) (h : tE G W (eLc2 mi vs f t mi1 vs1 f1 t1 e) σ H Q) :
    tLc2 (tI G W mi) (tgt G S f) (tT G Wn t) (tI G Wn mi1) (tgt G S1 f1) (tT G Wn t1) (tO G Wn e) vs vs1 σ H Q := by
  obtain ⟨HF, γ, k, p⟩ := h
  refine ⟨HF, γ, k, post_bind (r1 := rI G) p fun items γ0 J H0 HF0 k0 s0 wk p0 => ?_⟩
  intro P hP
  cases q0 : unO vs γ0 with
  | none => rw [q0] at p0; exact p0.elim
  | some γ1 =>
  rw [q0] at p0
  have u0 := unO_ok q0
  have a0 : Agree vs σ σ := ⟨rfl, fun _ _ => rfl⟩
  have k1 : Ok G σ H0 HF0 γ1 := u0.ok a0 k0
  have p1 := post_from later_E (s0.trans (u0.stp a0)) p0
  have mk0 : Mk G σ γ1 H0 HF0 P σ γ1 (upd H0 P (.lst [])) HF0 [] := ⟨k1.laid hP, .laid hP, ⟨[], upd_same, .nil⟩, k0.hf_none hP, fun j z => by
    obtain ⟨o, e, _⟩ := k1.own z
    rw [hP] at e; cases e⟩
  refine ⟨fun i m H' => m = items.length - i ∧ i ≤ items.length ∧ ∃ HF' γ' ds, Mk G σ γ1 H0 HF0 P σ γ' H' HF' ds ∧ Un vs γ' ∧ post (rE G) G W σ γ1 H0 HF0 Q ((lc2Go vs f t mi1 vs1 f1 t1 e (items.drop i) ds.length γ').bind fun ys γ3 => .ok (.own (.lst (ds ++ ys))) γ3), ⟨_, rfl, Nat.zero_le _, HF0, γ1, [], mk0, u0.in_, p1⟩, ?_⟩
  rintro i m H' ⟨rfl, hi, HF', γ', ds, mk, un, p'⟩
  obtain ⟨w1, w2⟩ := wk HF' H' mk.stp.mono mk.ok.sub
  by_cases hlt : i < items.length
  · refine .inr ⟨(w1 i hlt).1, fun H3 => i + 1 ≤ items.length ∧ ∃ HF3 γ3 ds3, Mk G σ γ1 H0 HF0 P σ γ3 H3 HF3 ds3 ∧ Un vs γ3 ∧ post (rE G) G W σ γ1 H0 HF0 Q ((lc2Go vs f t mi1 vs1 f1 t1 e (items.drop (i + 1)) ds3.length γ3).bind fun ys γ5 => .ok (.own (.lst (ds3 ++ ys))) γ5), fun H3 q => ⟨items.length - (i + 1), by omega, rfl, q⟩, fun x H'' y => ?_⟩
    obtain ⟨d, ed, yy⟩ := (w1 i hlt).2 x H'' y
    obtain ⟨HF2, k2, s2, r2⟩ := yld_ok mk.ok yy
    rw [drop_of hlt ed] at p'
    unfold lc2Go at p'
    have uid := un.id
    have kw : Ok G (wipe σ vs) H'' HF2 γ' := uid.ok (wipe_agree σ vs) k2
    have sw : Stp σ γ' H' HF' (wipe σ vs) γ' H'' HF2 := s2.trans (uid.stp (wipe_agree σ vs))
    refine ⟨HF2, γ', d, kw, r2, ?_⟩
    cases q : f d γ' with
    | none => rw [q] at p'; exact p'.elim
    | some γ2 =>
      rw [q] at p'
      simp only at p'
      intro σ2 k3 s3 ag
      have ag2 : Agree vs σ σ2 := (wipe_agree σ vs).tr (ag.mono hS)
      refine ⟨by rw [wipe_eq ag2], HF2, γ2, k3, ?_⟩
      have sb : Stp σ γ' H' HF' σ2 γ2 H'' HF2 := sw.trans s3
      cases et : t γ2 with
      | bad => rw [et] at p'; exact p'.elim
      | er x γ3 => rw [et] at p'; exact p'.elim
      | ok b γ3 =>
        rw [et] at p'
        intro b' H3 HF3 k4 s4 eb
        cases eb
        have sc := sb.trans s4
        cases b with
        | false =>
          rw [if_neg (by simp)]
          cases q3 : unO vs γ3 with
          | none => simp only [Out.bindN, q3] at p'; exact p'.elim
          | some γ5 =>
            simp only [Out.bindN, q3] at p'
            exact ⟨hlt, HF3, γ5, ds, mk.back ag2 k4 sc q3, (unO_ok q3).in_, p'⟩
        | true =>
          rw [if_pos rfl]
          refine ⟨HF3, γ3, k4, ?_⟩
          cases ei : mi1 γ3 with
          | bad => simp only [Out.bindN, ei] at p'; exact p'.elim
          | er x γ4 => simp only [Out.bindN, ei] at p'; exact p'.elim
          | ok items1 γ4 =>
            simp only [Out.bindN, ei] at p'
            intro J1 H4 HF4 k5 s5 wk1
            cases q1 : unO vs1 γ4 with
            | none => simp only [q1] at p'; exact p'.elim
            | some γ5 =>
              simp only [q1] at p'
              have u1 := unO_ok q1
              have a2 : Agree vs1 σ2 σ2 := ⟨rfl, fun _ _ => rfl⟩
              have k6 : Ok G σ2 H4 HF4 γ5 := u1.ok a2 k5
              have s6 : Stp σ γ' H' HF' σ2 γ5 H4 HF4 := (sc.trans s5).trans (u1.stp a2)
              have mki : Mk G σ γ1 H0 HF0 P σ2 γ5 H4 HF4 ds := mk.go k6 s6
              rw [Out.bind_assoc] at p'
              refine lc_loop (W := W) (Q := Q) hS1 hP wk1 mki u1.in_ p' fun ys γ6 H6 HF6 mk6 _ p6 => ?_
              cases q6 : unO vs γ6 with
              | none => simp only [q6] at p6; exact p6.elim
              | some γ7 =>
                simp only [q6] at p6
                have uu := unO_ok q6
                have mk7 : Mk G σ γ1 H0 HF0 P σ γ7 H6 HF6 (ds ++ ys) := mk6.go (uu.ok (G := G) ag2.symm mk6.ok) (uu.stp ag2.symm)
                refine ⟨hlt, HF6, γ7, ds ++ ys, mk7, uu.in_, ?_⟩
                rw [Out.bind_assoc] at p6
                simp only [Out.bind, List.length_append, List.append_assoc] at p6 ⊢
                exact p6
  · have e : i = items.length := by omega
    subst e
    refine .inl ⟨w2, ?_⟩
    rw [List.drop_length] at p'
    have p2 : post (rE G) G W σ γ1 H0 HF0 Q (.ok (.own (.lst (ds ++ []))) γ') := p'
    rw [List.append_nil] at p2
    obtain ⟨xs, e1, r1⟩ := mk.acc
    exact p2 (.ref P) H' HF' mk.ok mk.stp ⟨P, rfl, ⟨xs, e1, mk.fz, r1⟩, mk.no, .inl hP⟩

/-! the rules -/
def mYes : Gam → Out Bool := fun γ => .ok true γ
theorem tpts_nil : PTs X [] (tT G W mYes) := ⟨fun pins s σ H Q I h => pts_nil.run pins s σ H Q I (by
  obtain ⟨HF, γ, k, p⟩ := h
  exact p true H HF k .refl rfl)⟩
theorem tpts_one {c : Expr} {m : Gam → Out Bool} (h : PT X c (tT G W m)) : PTs X [c] (tT G W m) := pts_one h
theorem tpe_lc {elt tg iter : Expr} {ifs : List Expr} {scope : Scope} {own : List (Str × Nat)} {pos : Pos} {mi : Gam → Out (List D)} {S : List Nat} {f : D → Gam → Option Gam} {t : Gam → Out Bool} {e : Gam → Out Ar} (hc : X.calm = true) (hN : X.N.Nodup) (hi : PI X tg iter (tI G W mi)) (ok : BlkOk X.N X.env.scope scope own)
    (hg : ∀ (s : Shared) (H : Hp) (C : Addr) (cl : List (Str × Addr)) (fp : List Addr), PG (X.blk s H scope (compEnvC scope cl C X.env) fp) tg (tgt G S f)) (ht : ∀ (s : Shared) (H : Hp) (C : Addr) (cl : List (Str × Addr)) (fp : List Addr), PTs (X.blk s H scope (compEnvC scope cl C X.env) fp) ifs (tT G Wn t))
    (he : ∀ (s : Shared) (H : Hp) (C : Addr) (cl : List (Str × Addr)) (fp : List Addr), PE (X.blk s H scope (compEnvC scope cl C X.env) fp) elt (tO G Wn e)) (hs : ∀ x, foldedSetIterable iter X.env x = pure x) (hS : ∀ i ∈ S, i ∈ own.map (·.2)) :
    PE X (.ListComp elt [⟨tg, iter, ifs, 0⟩] scope pos) (tE G W (eLc mi (own.map (·.2)) f t e)) := ⟨fun pins s σ H Q I h => (pe_lc hc hN hi ok hg ht he hs).run pins s σ H Q I (te_lc hS h)⟩
theorem tps_setLc {i : Nat} {y : Str} {py : Pos} {elt tg iter : Expr} {ifs : List Expr} {scope : Scope} {own : List (Str × Nat)} {pos spos : Pos} {mi : Gam → Out (List D)} {S : List Nat} {f : D → Gam → Option Gam} {t : Gam → Out Bool} {e : Gam → Out Ar} (hc : X.calm = true) (hN : X.N.Nodup) (hy : X.N[i]? = some y) (hyl : X.env.scope.names.lookup y = some .local)
    (hsw : swapsWith (.ListComp elt [⟨tg, iter, ifs, 0⟩] scope pos) (some (.Name y py)) spos.line X.env = pure true) (hi : PI X tg iter (tI G W mi)) (ok : BlkOk X.N X.env.scope scope own)
    (hg : ∀ (s : Shared) (H : Hp) (C : Addr) (cl : List (Str × Addr)) (fp : List Addr), PG (X.blk s H scope (compEnvC scope cl C X.env) fp) tg (tgt G S f)) (ht : ∀ (s : Shared) (H : Hp) (C : Addr) (cl : List (Str × Addr)) (fp : List Addr), PTs (X.blk s H scope (compEnvC scope cl C X.env) fp) ifs (tT G Wn t))
    (he : ∀ (s : Shared) (H : Hp) (C : Addr) (cl : List (Str × Addr)) (fp : List Addr), PE (X.blk s H scope (compEnvC scope cl C X.env) fp) elt (tO G Wn e)) (hs : ∀ x, foldedSetIterable iter X.env x = pure x) (hS : ∀ i ∈ S, i ∈ own.map (·.2)) :
    PS X (.Assign [.Name y py] (.ListComp elt [⟨tg, iter, ifs, 0⟩] scope pos) spos) (tS G W (sSet i (eLc mi (own.map (·.2)) f t e))) := ⟨fun pins s σ H D I h => (ps_setLc hc hN hy hyl hsw hi ok hg ht he hs).run pins s σ H D I (te_lc hS (Q := fun x H1 => gName i x σ H1 D.nx) (ts_set h))⟩
theorem tpe_lc2 {elt tg iter tg1 iter1 : Expr} {ifs ifs1 : List Expr} {scope : Scope} {own : List (Str × Nat)} {vs1 : List Nat} {pos : Pos} {mi mi1 : Gam → Out (List D)} {S S1 : List Nat} {f f1 : D → Gam → Option Gam} {t t1 : Gam → Out Bool} {e : Gam → Out Ar} (hc : X.calm = true) (hN : X.N.Nodup) (hi : PI X tg iter (tI G W mi)) (ok : BlkOk X.N X.env.scope scope own) (hv : ∀ i ∈ vs1, i ∈ own.map (·.2))
    (hg : ∀ (s : Shared) (H : Hp) (C : Addr) (cl : List (Str × Addr)) (fp : List Addr), PG (X.blk s H scope (compEnvC scope cl C X.env) fp) tg (tgt G S f)) (ht : ∀ (s : Shared) (H : Hp) (C : Addr) (cl : List (Str × Addr)) (fp : List Addr), PTs (X.blk s H scope (compEnvC scope cl C X.env) fp) ifs (tT G Wn t))
    (hi1 : ∀ (s : Shared) (H : Hp) (C : Addr) (cl : List (Str × Addr)) (fp : List Addr), PI (X.blk s H scope (compEnvC scope cl C X.env) fp) tg1 iter1 (tI G Wn mi1))
    (hg1 : ∀ (s : Shared) (H : Hp) (C : Addr) (cl : List (Str × Addr)) (fp : List Addr), PG (X.blk s H scope (compEnvC scope cl C X.env) fp) tg1 (tgt G S1 f1)) (ht1 : ∀ (s : Shared) (H : Hp) (C : Addr) (cl : List (Str × Addr)) (fp : List Addr), PTs (X.blk s H scope (compEnvC scope cl C X.env) fp) ifs1 (tT G Wn t1))
    (he : ∀ (s : Shared) (H : Hp) (C : Addr) (cl : List (Str × Addr)) (fp : List Addr), PE (X.blk s H scope (compEnvC scope cl C X.env) fp) elt (tO G Wn e)) (hs : ∀ x, foldedSetIterable iter X.env x = pure x) (hs1 : ∀ env x, foldedSetIterable iter1 env x = pure x) (hS : ∀ i ∈ S, i ∈ own.map (·.2)) (hS1 : ∀ i ∈ S1, i ∈ vs1) :
    PE X (.ListComp elt [⟨tg, iter, ifs, 0⟩, ⟨tg1, iter1, ifs1, 0⟩] scope pos) (tE G W (eLc2 mi (own.map (·.2)) f t mi1 vs1 f1 t1 e)) := ⟨fun pins s σ H Q I h => (pe_lc2 hc hN hi ok hv hg ht hi1 hg1 ht1 he hs hs1).run pins s σ H Q I (te_lc2 hS hS1 hv h)⟩
theorem tps_setLc2 {i : Nat} {y : Str} {py : Pos} {elt tg iter tg1 iter1 : Expr} {ifs ifs1 : List Expr} {scope : Scope} {own : List (Str × Nat)} {vs1 : List Nat} {pos spos : Pos} {mi mi1 : Gam → Out (List D)} {S S1 : List Nat} {f f1 : D → Gam → Option Gam} {t t1 : Gam → Out Bool} {e : Gam → Out Ar} (hc : X.calm = true) (hN : X.N.Nodup) (hy : X.N[i]? = some y) (hyl : X.env.scope.names.lookup y = some .local)
    (hsw : swapsWith (.ListComp elt [⟨tg, iter, ifs, 0⟩, ⟨tg1, iter1, ifs1, 0⟩] scope pos) (some (.Name y py)) spos.line X.env = pure true) (hi : PI X tg iter (tI G W mi)) (ok : BlkOk X.N X.env.scope scope own) (hv : ∀ i ∈ vs1, i ∈ own.map (·.2))
    (hg : ∀ (s : Shared) (H : Hp) (C : Addr) (cl : List (Str × Addr)) (fp : List Addr), PG (X.blk s H scope (compEnvC scope cl C X.env) fp) tg (tgt G S f)) (ht : ∀ (s : Shared) (H : Hp) (C : Addr) (cl : List (Str × Addr)) (fp : List Addr), PTs (X.blk s H scope (compEnvC scope cl C X.env) fp) ifs (tT G Wn t))
    (hi1 : ∀ (s : Shared) (H : Hp) (C : Addr) (cl : List (Str × Addr)) (fp : List Addr), PI (X.blk s H scope (compEnvC scope cl C X.env) fp) tg1 iter1 (tI G Wn mi1))
    (hg1 : ∀ (s : Shared) (H : Hp) (C : Addr) (cl : List (Str × Addr)) (fp : List Addr), PG (X.blk s H scope (compEnvC scope cl C X.env) fp) tg1 (tgt G S1 f1)) (ht1 : ∀ (s : Shared) (H : Hp) (C : Addr) (cl : List (Str × Addr)) (fp : List Addr), PTs (X.blk s H scope (compEnvC scope cl C X.env) fp) ifs1 (tT G Wn t1))
    (he : ∀ (s : Shared) (H : Hp) (C : Addr) (cl : List (Str × Addr)) (fp : List Addr), PE (X.blk s H scope (compEnvC scope cl C X.env) fp) elt (tO G Wn e)) (hs : ∀ x, foldedSetIterable iter X.env x = pure x) (hs1 : ∀ env x, foldedSetIterable iter1 env x = pure x) (hS : ∀ i ∈ S, i ∈ own.map (·.2)) (hS1 : ∀ i ∈ S1, i ∈ vs1) :
    PS X (.Assign [.Name y py] (.ListComp elt [⟨tg, iter, ifs, 0⟩, ⟨tg1, iter1, ifs1, 0⟩] scope pos) spos) (tS G W (sSet i (eLc2 mi (own.map (·.2)) f t mi1 vs1 f1 t1 e))) := ⟨fun pins s σ H D I h => (ps_setLc2 hc hN hy hyl hsw hi ok hv hg ht hi1 hg1 ht1 he hs hs1).run pins s σ H D I (te_lc2 hS hS1 hv (Q := fun x H1 => gName i x σ H1 D.nx) (ts_set h))⟩
end
end T

-- text T6
set_option Elab.async false
set_option linter.all false
set_option maxRecDepth 100000
set_option maxHeartbeats 4000000
namespace T
open PySem L2
section
variable {X : Cx} {G : Tab} {W : Wt} {σ : L2.St} {H HF HF' : Hp} {γ : Gam} {E : Ends} {tg : Expr}
/-! what may be walked -/
def mIter (mo : Gam → Out Ar) : Gam → Out (List D) := fun γ => (mo γ).bind fun a γ1 => match a with
  | .d (.lst ds) => .ok ds γ1
  | .d (.tup ds) => .ok ds γ1
  | _ => .bad
theorem wk_lst {ds : List D} {a : Addr} {xs : List V} (hK : G.K = X.K) (h : HF a = some (.lst xs)) (r : RepL G HF ds xs) : Wk G ds (Itl X.K a) HF :=
  wk_of (walk_list (K := X.K) (a := a) (xs := xs)) r.length (fun HF2 H a b => SqL.of (b _ _ (a _ _ h))) fun HF2 H i x H' a b hi y => by
    obtain ⟨e, y⟩ := y
    obtain ⟨d, ed, rd⟩ := r.get' y
    exact ⟨d, ed, .inl ⟨e, Rep.mono a _ _ rd⟩⟩
theorem wk_tup {ds : List D} {a : Addr} {xs : List V} (hK : G.K = X.K) (h : SqT X.K HF a xs) (r : RepL G HF ds xs) : Wk G ds (Itt X.K a) HF :=
  wk_of (walk_tup (K := X.K) (a := a) (xs := xs)) r.length (fun HF2 H a b => SqT.mono (a.trans b) h) fun HF2 H i x H' a b hi y => by
    obtain ⟨e, y⟩ := y
    obtain ⟨d, ed, rd⟩ := r.get' y
    exact ⟨d, ed, .inl ⟨e, Rep.mono a _ _ rd⟩⟩
def iSeq (K : PySem.W.Frag) (tl : TE) : TI := fun σ H R => tl σ H fun x H1 => ∃ a, x = .ref a ∧ ((∃ xs, SqL K H1 a xs ∧ R (Itl K a) H1) ∨ ∃ xs, SqT K H1 a xs ∧ R (Itt K a) H1)
theorem pi_seq {l : Expr} {tl : TE} (hl : PE X l tl) : PI X tg l (iSeq X.K tl) := by
  refine ⟨fun pins s σ H R I h => ?_⟩
  refine thn (hl.run pins s σ H _ I h) fun v s1 ⟨x, H1, I1, r1, q1⟩ => ?_
  obtain ⟨a, e, q⟩ := q1
  subst e
  cases r1
  rcases q with ⟨xs, hq, q⟩ | ⟨xs, hq, q⟩
  · obtain ⟨its, rv, p, hz⟩ := I1.list hq
    refine wpAny_pyIter_list p.isList ?_
    refine ⟨s1.heap.objs.size, [s1.heap.objs.size], _, _, H1, rfl, I1.kept (t' := s1.toks) fun b o e => Heap.get?_push_of_some _ e, turn_list a _, ⟨_, Heap.get?_push_size _ rfl, rfl, rfl⟩, fun b hb => ?_, q⟩
    have e : b = s1.heap.objs.size := by simpa using hb
    subst e
    exact I1.fpOk (Nat.le_refl _) (I1.hok.fresh (Nat.le_refl _))
  · obtain ⟨its, rv, p, hz⟩ := I1.tuple hq
    refine wpAny_pyIter_tuple (show s1.heap.IsTuple a its.toArray from p) ?_
    refine ⟨s1.heap.objs.size, [s1.heap.objs.size], _, _, H1, rfl, I1.kept (t' := s1.toks) fun b o e => Heap.get?_push_of_some _ e, turn_tuple a _, ⟨_, Heap.get?_push_size _ rfl, rfl, rfl⟩, fun b hb => ?_, q⟩
    have e : b = s1.heap.objs.size := by simpa using hb
    subst e
    exact I1.fpOk (Nat.le_refl _) (I1.hok.fresh (Nat.le_refl _))
theorem tpi_seq {l : Expr} {mo : Gam → Out Ar} (hK : G.K = X.K) (hl : PE X l (tO G W mo)) : PI X tg l (tI G W (mIter mo)) := ⟨fun pins s σ H R I h => (pi_seq hl).run pins s σ H R I (by
  obtain ⟨HF, γ, k, p⟩ := h
  refine ⟨HF, γ, k, post_bind (r1 := rO G) p fun a γ1 v H1 HF1 k1 s1 r1 p1 => ?_⟩
  cases a with
  | sl i => exact p1.elim
  | d d =>
    cases d with
    | lst ds =>
      have r2 : Rep G HF1 (.lst ds) v := r1
      unfold Rep at r2
      obtain ⟨a, xs, e, h1, rl⟩ := r2
      exact ⟨a, e, .inl ⟨xs, SqL.of (k1.sub _ _ h1), p1 _ H1 HF1 k1 s1 (wk_lst hK h1 rl)⟩⟩
    | tup ds =>
      have r2 : Rep G HF1 (.tup ds) v := r1
      unfold Rep at r2
      obtain ⟨a, xs, e, h1, rl⟩ := r2
      rw [hK] at h1
      exact ⟨a, e, .inr ⟨xs, SqT.mono k1.sub h1, p1 _ H1 HF1 k1 s1 (wk_tup hK h1 rl)⟩⟩
    | _ => exact p1.elim)⟩
/-- lo, lo + 1, .. -/
def rgD (lo : Int) : Nat → List D
  | 0 => []
  | n + 1 => .int lo :: rgD (lo + 1) n
theorem rgD_length : ∀ (n : Nat) (lo : Int), (rgD lo n).length = n
  | 0, _ => rfl
  | n + 1, lo => by show (rgD (lo + 1) n).length + 1 = n + 1; rw [rgD_length n]
theorem rgD_get : ∀ (n : Nat) (lo : Int) (i : Nat), i < n → (rgD lo n)[i]? = some (.int (lo + i))
  | 0, _, _, h => absurd h (Nat.not_lt_zero _)
  | n + 1, lo, 0, _ => by show some (D.int lo) = some (D.int (lo + ((0 : Nat) : Int))); simp
  | n + 1, lo, i + 1, h => by
    show (rgD (lo + 1) n)[i]? = _
    rw [rgD_get n (lo + 1) i (Nat.lt_of_succ_lt_succ h)]
    congr 2
    push_cast
    omega
theorem wk_rg {lo : Int} {n : Nat} : Wk G (rgD lo n) (Itr lo n) HF :=
  wk_of walk_range (rgD_length n lo).symm (fun _ _ _ _ => trivial) fun HF2 H i x H' a b hi y => by
    obtain ⟨e, y⟩ := y
    refine ⟨_, rgD_get n lo i hi, .inl ⟨e, ?_⟩⟩
    rw [y]
    unfold Rep
    rfl
def inRg (i : Int) : Bool := decide (-4611686018427387904 ≤ i) && decide (i < 4611686018427387904)
theorem inRg_ok {i : Int} (h : inRg i = true) : -(2 ^ 62) ≤ i ∧ i < 2 ^ 62 := by
  unfold inRg at h
  simp only [Bool.and_eq_true, decide_eq_true_eq] at h
  exact ⟨by omega, by omega⟩
theorem looks_one {γ : Gam} {as : List Ar} {d : D} {vs : List V} (k : Ok G σ H HF γ) (r : ArsOk G σ HF as vs) (e : looks γ as = some [d]) : ∃ v, vs = [v] ∧ Pk G HF H d v := by
  have := looks_pk k r e
  cases this with
  | cons a b => cases b; exact ⟨_, rfl, a⟩
theorem looks_two {γ : Gam} {as : List Ar} {d d2 : D} {vs : List V} (k : Ok G σ H HF γ) (r : ArsOk G σ HF as vs) (e : looks γ as = some [d, d2]) : ∃ v v2, vs = [v, v2] ∧ Pk G HF H d v ∧ Pk G HF H d2 v2 := by
  have := looks_pk k r e
  cases this with
  | cons a b =>
    cases b with
    | cons a2 b => cases b; exact ⟨_, _, rfl, a, a2⟩
def mRng1 (ms : Gam → Out (List Ar)) : Gam → Out (List D) := fun γ => (ms γ).bind fun as γ1 => match looks γ1 as with
  | some [.int j] => (match inRg j with
    | true => .ok (rgD 0 j.toNat) γ1
    | false => .bad)
  | _ => .bad
def mRng2 (ms : Gam → Out (List Ar)) : Gam → Out (List D) := fun γ => (ms γ).bind fun as γ1 => match looks γ1 as with
  | some [.int i, .int j] => (match inRg i && inRg j with
    | true => .ok (rgD i (j - i).toNat) γ1
    | false => .bad)
  | _ => .bad
theorem tpi_range1 {a : Expr} {ms : Gam → Out (List Ar)} {p pos : Pos} (hg : Gl X "range") (hm : X.mg "range" = none) (ha : PA X [a] (tA G W ms)) (hs : starEach [a] X.env = [(false, eval a X.env)]) : PI X tg (.Call (.Name "range" p) [a] [] pos) (tI G W (mRng1 ms)) :=
  ⟨fun pins s σ H R I h => (pi_range1 hg hm ha hs).run pins s σ H R I (by
    obtain ⟨HF, γ, k, p⟩ := h
    refine ⟨HF, γ, k, post_bind (r1 := rA G) p fun as γ1 vs H1 HF1 k1 s1 r1 p1 => ?_⟩
    split at p1
    · rename_i j e
      obtain ⟨v, rfl, q⟩ := looks_one k1 r1 e
      cases b : inRg j with
      | false => rw [b] at p1; exact p1.elim
      | true =>
        rw [b] at p1
        obtain ⟨l, u⟩ := inRg_ok b
        exact ⟨j, by rw [q.int], l, u, p1 _ H1 HF1 k1 s1 wk_rg⟩
    · exact p1.elim)⟩
theorem tpi_range2 {a b : Expr} {ms : Gam → Out (List Ar)} {p pos : Pos} (hg : Gl X "range") (hm : X.mg "range" = none) (ha : PA X [a, b] (tA G W ms)) (hs : starEach [a, b] X.env = [(false, eval a X.env), (false, eval b X.env)]) (hs2 : starEach [b] X.env = [(false, eval b X.env)]) : PI X tg (.Call (.Name "range" p) [a, b] [] pos) (tI G W (mRng2 ms)) :=
  ⟨fun pins s σ H R I h => (pi_range2 hg hm ha hs hs2).run pins s σ H R I (by
    obtain ⟨HF, γ, k, p⟩ := h
    refine ⟨HF, γ, k, post_bind (r1 := rA G) p fun as γ1 vs H1 HF1 k1 s1 r1 p1 => ?_⟩
    split at p1
    · rename_i i j e
      obtain ⟨v, v2, rfl, q, q2⟩ := looks_two k1 r1 e
      cases b : inRg i && inRg j with
      | false => rw [b] at p1; exact p1.elim
      | true =>
        rw [b] at p1
        obtain ⟨b1, b2⟩ := Bool.and_eq_true_iff.mp b
        obtain ⟨l, u⟩ := inRg_ok b1
        obtain ⟨l2, u2⟩ := inRg_ok b2
        exact ⟨i, j, by rw [q.int, q2.int], ⟨l, u, l2, u2⟩, p1 _ H1 HF1 k1 s1 wk_rg⟩
    · exact p1.elim)⟩
def zipD : List D → List D → List D
  | a :: as, b :: bs => .tup [a, b] :: zipD as bs
  | _, _ => []
theorem zipD_length : ∀ (as bs : List D), (zipD as bs).length = min as.length bs.length
  | [], _ => by simp [zipD]
  | _ :: _, [] => by simp [zipD]
  | a :: as, b :: bs => by simp [zipD, zipD_length as bs]
theorem zipD_get : ∀ (as bs : List D) (i : Nat) (x y : D), as[i]? = some x → bs[i]? = some y → (zipD as bs)[i]? = some (.tup [x, y])
  | [], _, i, _, _, h, _ => by rw [List.getElem?_nil] at h; cases h
  | _ :: _, [], i, _, _, _, h => by rw [List.getElem?_nil] at h; cases h
  | a :: as, b :: bs, 0, x, y, h, h2 => by
    simp at h h2
    subst h h2
    rfl
  | a :: as, b :: bs, i + 1, x, y, h, h2 => zipD_get as bs i x y (by simpa using h) (by simpa using h2)
def mZip (ms : Gam → Out (List Ar)) : Gam → Out (List D) := fun γ => (ms γ).bind fun as γ1 => match as with
  | [.d (.tup as), .d (.tup bs)] => .ok (zipD as bs) γ1
  | [.d (.lst as), .d (.lst bs)] => .ok (zipD as bs) γ1
  | _ => .bad
theorem ypair_ok {as bs : List D} {xs ys : List V} {HF2 H : Hp} {i : Nat} {x : V} {H' : Hp} (r1 : RepL G HF2 as xs) (r2 : RepL G HF2 bs ys) (y : YPair (fun i => xs[i]?) (fun i => ys[i]?) i H x H') :
    ∃ d, (zipD as bs)[i]? = some d ∧ ((H' = H ∧ Rep G HF2 d x) ∨ ∃ T xs ds, x = .ref T ∧ H T = none ∧ H' = upd H T (.tup xs) ∧ d = .tup ds ∧ RepL G HF2 ds xs) := by
  obtain ⟨T, u, v, e1, e2, e3, e4, e5⟩ := y
  obtain ⟨d1, g1, q1⟩ := r1.get' e4
  obtain ⟨d2, g2, q2⟩ := r2.get' e5
  exact ⟨_, zipD_get as bs i d1 d2 g1 g2, .inr ⟨T, [u, v], [d1, d2], e1, e2, e3, rfl, .cons q1 (.one q2)⟩⟩
theorem walk_zipT {K : PySem.W.Frag} {a b : Addr} {xs ys : List V} {n : Nat} (hn : n = min xs.length ys.length) : Walk (RZ.ItzT K a b) n (fun H => SqT K H a xs ∧ SqT K H b ys) (YPair (fun i => xs[i]?) (fun i => ys[i]?)) := by
  subst hn
  refine ⟨fun i _ hi q => ?_, fun _ q => ⟨xs, ys, q.1, q.2, by omega⟩, fun i H v H' _ q y => ?_⟩
  · have h1 : i < xs.length := by omega
    have h2 : i < ys.length := by omega
    exact ⟨xs, ys, xs[i], ys[i], q.1, q.2, by simp [h1], by simp [h2]⟩
  · obtain ⟨T, x, z, h1, h2, h3, h4⟩ := y
    exact ⟨T, x, z, h1, h2, h3, h4.1 xs q.1, h4.2 ys q.2⟩
theorem wk_zipT {as bs : List D} {a b : Addr} {xs ys : List V} (h1 : SqT X.K HF a xs) (h2 : SqT X.K HF b ys) (r1 : RepL G HF as xs) (r2 : RepL G HF bs ys) : Wk G (zipD as bs) (RZ.ItzT X.K a b) HF :=
  wk_of (walk_zipT (K := X.K) (a := a) (b := b) (xs := xs) (ys := ys) rfl) (by rw [zipD_length, r1.length, r2.length]) (fun HF2 H m m2 => ⟨SqT.mono (m.trans m2) h1, SqT.mono (m.trans m2) h2⟩) fun HF2 H i x H' m m2 hi y => ypair_ok (RepL.mono m _ _ r1) (RepL.mono m _ _ r2) y
theorem wk_zipL {as bs : List D} {a b : Addr} {xs ys : List V} (h1 : HF a = some (.lst xs)) (h2 : HF b = some (.lst ys)) (r1 : RepL G HF as xs) (r2 : RepL G HF bs ys) : Wk G (zipD as bs) (Itz X.K a b) HF :=
  wk_of (walk_zip (K := X.K) (a := a) (b := b) (xs := xs) (ys := ys) rfl) (by rw [zipD_length, r1.length, r2.length]) (fun HF2 H m m2 => ⟨SqL.of (m2 _ _ (m _ _ h1)), SqL.of (m2 _ _ (m _ _ h2))⟩) fun HF2 H i x H' m m2 hi y => ypair_ok (RepL.mono m _ _ r1) (RepL.mono m _ _ r2) y
theorem ars_two {as : List Ar} {d d2 : D} {vs : List V} (r : ArsOk G σ HF [.d d, .d d2] vs) : ∃ v v2, vs = [v, v2] ∧ Rep G HF d v ∧ Rep G HF d2 v2 := by
  cases r with
  | cons a b =>
    cases b with
    | cons a2 b => cases b; exact ⟨_, _, rfl, a, a2⟩
theorem tpi_zip {e e2 : Expr} {ms : Gam → Out (List Ar)} {p pos tpos : Pos} {elts : List Expr} {kk : Nat} (hK : G.K = X.K) (hg : Gl X "zip") (hm : X.mg "zip" = none) (ha : PA X [e, e2] (tA G W ms))
    (hs : starEach [e, e2] X.env = (false, eval e X.env) :: starEach [e2] X.env) (hpl : (backTo pos (starEach [e2] X.env)).any (·.1) = false) : PI X (.Tuple elts kk tpos) (.Call (.Name "zip" p) [e, e2] [] pos) (tI G W (mZip ms)) :=
  ⟨fun pins s σ H R I h => (RZ.pi_zipA hg hm ha hs hpl).run pins s σ H R I (by
    obtain ⟨HF, γ, k, p⟩ := h
    refine ⟨HF, γ, k, post_bind (r1 := rA G) p fun as γ1 vs H1 HF1 k1 s1 r1 p1 => ?_⟩
    split at p1
    · rename_i as bs
      obtain ⟨v, v2, rfl, q, q2⟩ := ars_two (as := []) r1
      unfold Rep at q q2
      obtain ⟨a, xs, rfl, h1, l1⟩ := q
      obtain ⟨b, ys, rfl, h2, l2⟩ := q2
      rw [hK] at h1 h2
      exact ⟨a, b, xs, ys, rfl, .inr ⟨SqT.mono k1.sub h1, SqT.mono k1.sub h2, p1 _ H1 HF1 k1 s1 (wk_zipT h1 h2 l1 l2)⟩⟩
    · rename_i as bs
      obtain ⟨v, v2, rfl, q, q2⟩ := ars_two (as := []) r1
      unfold Rep at q q2
      obtain ⟨a, xs, rfl, h1, l1⟩ := q
      obtain ⟨b, ys, rfl, h2, l2⟩ := q2
      exact ⟨a, b, xs, ys, rfl, .inl ⟨SqL.of (k1.sub _ _ h1), SqL.of (k1.sub _ _ h2), p1 _ H1 HF1 k1 s1 (wk_zipL h1 h2 l1 l2)⟩⟩
    · exact p1.elim)⟩
end
end T

-- text T7
set_option Elab.async false
set_option linter.all false
set_option maxRecDepth 100000
set_option maxHeartbeats 4000000
namespace T
open PySem L2
section
variable {X : Cx} {G : Tab} {W : Wt} {σ : L2.St} {H HF HF' : Hp} {γ : Gam} {E : Ends}
/-! displays -/
def dsOf : List Ar → Option (List D)
  | [] => some []
  | .d d :: as => (match dsOf as with
    | some ds => some (d :: ds)
    | none => none)
  | .sl _ :: _ => none
theorem dsOf_rep : ∀ {as : List Ar} {vs : List V} {ds : List D}, ArsOk G σ HF as vs → dsOf as = some ds → RepL G HF ds vs
  | _, _, _, .nil, e => by cases e; exact .nil
  | .d d :: as, _, ds, .cons r t, e => by
    unfold dsOf at e
    cases q : dsOf as with
    | none => rw [q] at e; cases e
    | some ds' =>
      rw [q] at e
      cases e
      exact .cons r (dsOf_rep t q)
  | .sl _ :: _, _, _, .cons _ _, e => by cases e
def fitN (n : Nat) : Bool := Nat.ble n 16777216
theorem fitN_ok {n : Nat} (h : fitN n = true) : n ≤ sizeLine := by rw [size_line]; exact Nat.le_of_ble_eq_true h
def eTup (ms : Gam → Out (List Ar)) : Gam → Out R := fun γ => (ms γ).bind fun as γ1 => match dsOf as with
  | some ds => (match fitN ds.length with
    | true => .ok (.fz (.tup ds)) γ1
    | false => .bad)
  | none => .bad
def eLst (ms : Gam → Out (List Ar)) : Gam → Out R := fun γ => (ms γ).bind fun as γ1 => match dsOf as with
  | some ds => (match fitN ds.length with
    | true => .ok (.own (.lst ds)) γ1
    | false => .bad)
  | none => .bad
theorem te_tup {ms : Gam → Out (List Ar)} {Q : VK} (h : tE G W (eTup ms) σ H Q) : tTup (tA G W ms) σ H Q := by
  obtain ⟨HF, γ, k, p⟩ := h
  refine ⟨HF, γ, k, post_bind (r1 := rA G) p fun as γ1 xs H1 HF1 k1 s1 r1 p1 => ?_⟩
  cases e : dsOf as with
  | none => rw [e] at p1; exact p1.elim
  | some ds =>
    rw [e] at p1
    simp only at p1
    cases f : fitN ds.length with
    | false => rw [f] at p1; exact p1.elim
    | true =>
      rw [f] at p1
      have rl := dsOf_rep r1 e
      refine ⟨by rw [rl.length]; exact fitN_ok f, fun q n => ?_⟩
      exact br_fin (br := .newT ds) k1 (post_from later_E s1 p1) ⟨q, xs, rfl, n, rfl, rl⟩
theorem te_lst {ms : Gam → Out (List Ar)} {Q : VK} (h : tE G W (eLst ms) σ H Q) : tLst (tA G W ms) σ H Q := by
  obtain ⟨HF, γ, k, p⟩ := h
  refine ⟨HF, γ, k, post_bind (r1 := rA G) p fun as γ1 xs H1 HF1 k1 s1 r1 p1 => ?_⟩
  cases e : dsOf as with
  | none => rw [e] at p1; exact p1.elim
  | some ds =>
    rw [e] at p1
    simp only at p1
    cases f : fitN ds.length with
    | false => rw [f] at p1; exact p1.elim
    | true =>
      rw [f] at p1
      have rl := dsOf_rep r1 e
      refine ⟨by rw [rl.length]; exact fitN_ok f, fun q n => ?_⟩
      exact br_fin (br := .newL ds) k1 (post_from later_E s1 p1) ⟨q, xs, rfl, n, rfl, rl⟩
theorem tpe_tup {es : List Expr} {x1 : Nat} {pos : Pos} {ms : Gam → Out (List Ar)} (h : PA X es (tA G W ms)) : PE X (.Tuple es x1 pos) (tE G W (eTup ms)) := ⟨fun pins s σ H Q I hw => (pe_tup h).run pins s σ H Q I (te_tup hw)⟩
theorem tpe_lst {es : List Expr} {pos : Pos} {ms : Gam → Out (List Ar)} (h : PA X es (tA G W ms)) : PE X (.List es pos) (tE G W (eLst ms)) := ⟨fun pins s σ H Q I hw => (pe_lst h).run pins s σ H Q I (te_lst hw)⟩
/-- *e, .. -/
def aStar (m : Gam → Out Ar) (ms : Gam → Out (List Ar)) : Gam → Out (List Ar) := fun γ => (m γ).bind fun a γ1 => match a with
  | .d (.tup ds) => (ms γ1).bind fun as γ2 => .ok (ds.map Ar.d ++ as) γ2
  | .d (.lst ds) => (ms γ1).bind fun as γ2 => .ok (ds.map Ar.d ++ as) γ2
  | _ => .bad
theorem arsOk_map : ∀ {ds : List D} {xs : List V} {as : List Ar} {vs : List V}, RepL G HF ds xs → ArsOk G σ HF as vs → ArsOk G σ HF (ds.map Ar.d ++ as) (xs ++ vs)
  | [], xs, as, vs, h, t => by unfold RepL at h; subst h; exact t
  | d :: ds, xs, as, vs, h, t => by
    unfold RepL at h
    obtain ⟨v, ws, rfl, r, q⟩ := h
    exact .cons r (arsOk_map q t)
theorem ta_star (hK : G.K = X.K) {m : Gam → Out Ar} {ms : Gam → Out (List Ar)} {Q : List V → Hp → Prop} (h : tA G W (aStar m ms) σ H Q) : StX.tStar X.K (tO G W m) (tA G W ms) σ H Q := by
  obtain ⟨HF, γ, k, p⟩ := h
  refine ⟨HF, γ, k, post_bind (r1 := rO G) p fun a γ1 x H1 HF1 k1 s1 r1 p1 => ?_⟩
  split at p1
  · rename_i ds
    have r2 : Rep G HF1 (.tup ds) x := r1
    unfold Rep at r2
    obtain ⟨b, xs, rfl, h1, l1⟩ := r2
    rw [hK] at h1
    refine ⟨b, xs, rfl, .inl (SqT.mono k1.sub h1), HF1, γ1, k1, post_bind (r1 := rA G) (post_from later_A s1 p1) fun as γ2 vs H2 HF2 k2 s2 r2 p2 => ?_⟩
    exact p2 (xs ++ vs) H2 HF2 k2 s2 (arsOk_map (RepL.mono s2.mono _ _ l1) r2)
  · rename_i ds
    have r2 : Rep G HF1 (.lst ds) x := r1
    unfold Rep at r2
    obtain ⟨b, xs, rfl, h1, l1⟩ := r2
    refine ⟨b, xs, rfl, .inr (SqL.of (k1.sub _ _ h1)), HF1, γ1, k1, post_bind (r1 := rA G) (post_from later_A s1 p1) fun as γ2 vs H2 HF2 k2 s2 r2 p2 => ?_⟩
    exact p2 (xs ++ vs) H2 HF2 k2 s2 (arsOk_map (RepL.mono s2.mono _ _ l1) r2)
  · exact p1.elim
theorem tpa_star {e : Expr} {es : List Expr} {p : Pos} {m : Gam → Out Ar} {ms : Gam → Out (List Ar)} (hK : G.K = X.K) (he : PE X e (tO G W m)) (hr : PA X es (tA G W ms)) (hs : starEach (.Starred e p :: es) X.env = (true, eval e X.env) :: starEach es X.env) :
    PA X (.Starred e p :: es) (tA G W (aStar m ms)) := ⟨fun pos pins s σ H Q I h => (StX.pa_star he hr hs).run pos pins s σ H Q I (ta_star hK h)⟩

/-! subscripts -/
def seqAt (ds : List D) (i : Int) : Option BR := match atI ds i with
  | some d => some (.val d)
  | none => none
def fIx : D → D → Option BR
  | .lst ds, .int i => seqAt ds i
  | .tup ds, .int i => seqAt ds i
  | .frz ds, .int i => seqAt ds i
  | _, _ => none
theorem repL_atI {ds : List D} {xs : List V} {i : Int} {d : D} (r : RepL G HF ds xs) (h : atI ds i = some d) : ∃ v, atI xs i = some v ∧ Rep G HF d v := by
  unfold atI at h ⊢
  rw [r.length]
  cases e : ixN ds.length i with
  | none => rw [e] at h; cases h
  | some j =>
    rw [e] at h
    exact r.get h
theorem ok_ix (hK : G.K = X.K) : OpOk G (rIx X.K) fIx := by
  intro H HF x y d1 d2 br Q sub p1 p2 e h
  have go : ∀ (ds : List D) (i : Int), seqAt ds i = some br → ∀ xs, RepL G HF ds xs → ∃ v, atI xs i = some v ∧ Q v H := fun ds i e xs r => by
    unfold seqAt at e
    cases q : atI ds i with
    | none => rw [q] at e; cases e
    | some d =>
      rw [q] at e
      cases e
      obtain ⟨v, a, b⟩ := repL_atI r q
      exact ⟨v, a, h v H ⟨rfl, b⟩⟩
  unfold fIx at e
  split at e
  · rename_i ds i
    obtain ⟨a, xs, rfl, h1, r⟩ := p1.lst sub
    obtain ⟨v, a1, q⟩ := go ds i e xs r
    exact .inl ⟨a, xs, i, v, rfl, p2.int, SqL.of h1, a1, q⟩
  · rename_i ds i
    obtain ⟨a, xs, rfl, h1, r⟩ := p1.tup sub
    obtain ⟨v, a1, q⟩ := go ds i e xs r
    rw [hK] at h1
    exact .inr (.inl ⟨a, xs, i, v, rfl, p2.int, h1, a1, q⟩)
  · rename_i ds i
    obtain ⟨a, xs, rfl, h1, r⟩ := p1.frz sub
    obtain ⟨v, a1, q⟩ := go ds i e xs r
    rw [hK] at h1
    exact .inl ⟨a, xs, i, v, rfl, p2.int, h1, a1, q⟩
  · cases e
theorem tpe_ix {a b : Expr} {pos : Pos} {ma mb : Gam → Out Ar} (hK : G.K = X.K) (ha : PE X a (tO G W ma)) (hb : PE X b (tO G W mb)) (hs : PlainIx b) : PE X (.Subscript a b pos) (tE G W (eOp fIx ma mb)) :=
  ⟨fun pins s σ H Q I h => (pe_ix ix_seq ha hb hs).run pins s σ H Q I (te_op (ok_ix hK) h)⟩

/-! slices -/
def mPart : RelK (Option Int) (Option Int) := fun _ _ _ _ _ _ a b => a = b
theorem later_P : Later mPart := ⟨fun _ h => h⟩
abbrev tP (G : Tab) (W : Wt) (m : Gam → Out (Option Int)) : TO := tM mPart G W m
def pNone : Gam → Out (Option Int) := fun γ => .ok none γ
def pSome (m : Gam → Out Ar) : Gam → Out (Option Int) := fun γ => (m γ).bind fun a γ1 => match look γ1 a with
  | some (.int i) => .ok (some i) γ1
  | _ => .bad
theorem tpo_none : PO X none (tP G W pNone) := ⟨fun pins s σ H Q I h => po_none.run pins s σ H Q I (by
  obtain ⟨HF, γ, k, p⟩ := h
  exact p none H HF k .refl rfl)⟩
theorem tpo_some {e : Expr} {m : Gam → Out Ar} (he : PE X e (tO G W m)) : PO X (some e) (tP G W (pSome m)) := ⟨fun pins s σ H Q I h => (po_some he).run pins s σ H Q I (by
  obtain ⟨HF, γ, k, p⟩ := h
  refine ⟨HF, γ, k, post_bind (r1 := rO G) p fun a γ1 x H1 HF1 k1 s1 r1 p1 => ?_⟩
  split at p1
  · rename_i i e
    exact ⟨i, (look_pk k1 r1 e).int, p1 (some i) H1 HF1 k1 s1 rfl⟩
  · exact p1.elim)⟩
def cutD (ds : List D) (lo hi : Option Int) : List D := (ds.drop (HT.sIx ds.length 0 lo)).take (HT.sIx ds.length ds.length hi - HT.sIx ds.length 0 lo)
theorem RepL.drop : ∀ {ds : List D} {xs : List V} (n : Nat), RepL G HF ds xs → RepL G HF (ds.drop n) (xs.drop n)
  | _, _, 0, h => h
  | [], xs, n + 1, h => by unfold RepL at h; subst h; exact .nil
  | d :: ds, xs, n + 1, h => by
    unfold RepL at h
    obtain ⟨v, vs, rfl, _, q⟩ := h
    exact RepL.drop n q
theorem RepL.take : ∀ {ds : List D} {xs : List V} (n : Nat), RepL G HF ds xs → RepL G HF (ds.take n) (xs.take n)
  | ds, xs, 0, h => by rw [List.take_zero, List.take_zero]; exact .nil
  | [], xs, n + 1, h => by unfold RepL at h; subst h; exact .nil
  | d :: ds, xs, n + 1, h => by
    unfold RepL at h
    obtain ⟨v, vs, rfl, r, q⟩ := h
    exact .cons r (RepL.take n q)
theorem cut_rep {ds : List D} {xs : List V} {lo hi : Option Int} (r : RepL G HF ds xs) : RepL G HF (cutD ds lo hi) (cutV xs lo hi) := by
  unfold cutD cutV
  rw [r.length]
  exact RepL.take _ (RepL.drop _ r)
def fSl : D → Option Int → Option Int → Option BR
  | .tup ds, lo, hi => (match HT.sIx ds.length 0 lo == 0 && HT.sIx ds.length ds.length hi == ds.length with
    | true => some (.val (.tup ds))
    | false => some (.newT (cutD ds lo hi)))
  | .lst ds, lo, hi => some (.newL (cutD ds lo hi))
  | _, _, _ => none
def eSl (m : Gam → Out Ar) (pl ph : Gam → Out (Option Int)) : Gam → Out R := fun γ => (m γ).bind fun a γ1 => (pl γ1).bind fun lo γ2 => (ph γ2).bind fun hi γ3 => match look γ3 a with
  | some d => ofB (fSl d lo hi) γ3
  | none => .bad
def rSlAny (K : PySem.W.Frag) : V → Option Int → Option Int → Hp → VK → Prop := fun x lo hi H Q => rSlA K x lo hi H Q ∨ rSlL K x lo hi H Q
theorem te_sl (hK : G.K = X.K) {m : Gam → Out Ar} {pl ph : Gam → Out (Option Int)} {Q : VK} (h : tE G W (eSl m pl ph) σ H Q) : tSl (rSlAny X.K) (tO G W m) (tP G W pl) (tP G W ph) σ H Q := by
  obtain ⟨HF, γ, k, p⟩ := h
  refine ⟨HF, γ, k, post_bind (r1 := rO G) p fun a γ1 x H1 HF1 k1 s1 r1 p1 => ?_⟩
  refine ⟨HF1, γ1, k1, post_bind (r1 := mPart) (post_from later_E s1 p1) fun lo γ2 lo' H2 HF2 k2 s2 e2 p2 => ?_⟩
  cases e2
  refine ⟨HF2, γ2, k2, post_bind (r1 := mPart) (post_from later_E s2 p2) fun hi γ3 hi' H3 HF3 k3 s3 e3 p3 => ?_⟩
  cases e3
  have p4 := post_from later_E s3 p3
  cases e : look γ3 a with
  | none => rw [e] at p4; exact p4.elim
  | some d =>
    rw [e] at p4
    have pk := look_pk k3 (ArOk.mono (s2.mono.trans s3.mono) r1) e
    have p5 : post (rE G) G W σ γ3 H3 HF3 Q (ofB (fSl d lo hi) γ3) := p4
    cases d with
    | tup ds =>
      obtain ⟨b, xs, rfl, h1, r⟩ := pk.tup k3.sub
      rw [hK] at h1
      have hl := r.length
      refine .inl ⟨b, xs, rfl, h1, fun w => ?_, fun w q n => ?_⟩
      · have e1 : (HT.sIx ds.length 0 lo == 0 && HT.sIx ds.length ds.length hi == ds.length) = true := by
          rw [hl] at w
          simp [w.1, w.2]
        simp only [fSl, e1] at p5
        exact br_fin (br := .val (.tup ds)) k3 p5 ⟨rfl, pk.tupF⟩
      · have e1 : (HT.sIx ds.length 0 lo == 0 && HT.sIx ds.length ds.length hi == ds.length) = false := by
          rw [hl] at w
          cases z : (HT.sIx ds.length 0 lo == 0 && HT.sIx ds.length ds.length hi == ds.length) with
          | false => rfl
          | true =>
            simp only [Bool.and_eq_true, beq_iff_eq] at z
            exact absurd z w
        simp only [fSl, e1] at p5
        exact br_fin (br := .newT (cutD ds lo hi)) k3 p5 ⟨q, _, rfl, n, rfl, cut_rep r⟩
    | lst ds =>
      obtain ⟨b, xs, rfl, h1, r⟩ := pk.lst k3.sub
      exact .inr ⟨b, xs, rfl, SqL.of h1, fun q n => br_fin (br := .newL (cutD ds lo hi)) k3 p5 ⟨q, _, rfl, n, rfl, cut_rep r⟩⟩
    | _ => exact p5.elim
theorem tpe_slice {e : Expr} {lo hi : Option Expr} {p2 pos : Pos} {m : Gam → Out Ar} {pl ph : Gam → Out (Option Int)} (hK : G.K = X.K) (he : PE X e (tO G W m)) (hl : PO X lo (tP G W pl)) (hu : PO X hi (tP G W ph)) : PE X (.Subscript e (.Slice lo hi none p2) pos) (tE G W (eSl m pl ph)) :=
  ⟨fun pins s σ H Q I h => (pe_slice (SlR.or sl_tupA sl_list) he hl hu).run pins s σ H Q I (te_sl hK h)⟩
end
end T

-- text T8
set_option Elab.async false
set_option linter.all false
set_option maxRecDepth 100000
set_option maxHeartbeats 4000000
namespace T
open PySem L2
/-! == of data -/
mutual
def pyOf : D → PyData
  | .non => .none
  | .bl b => .bool b
  | .int i => .int i
  | .str x => .str x
  | .tup ds => .tuple (pyOfL ds)
  | .lst ds => .list (pyOfL ds)
  | _ => .dict []
def pyOfL : List D → List PyData
  | [] => []
  | d :: ds => pyOf d :: pyOfL ds
end
mutual
def shD : Nat → D → Bool
  | _, .non => true
  | _, .bl _ => true
  | _, .int _ => true
  | _, .str x => x.cps.all (· < 0x110000)
  | n, .tup ds => (match n with
    | 0 => false
    | n + 1 => shL n ds)
  | n, .lst ds => (match n with
    | 0 => false
    | n + 1 => shL n ds)
  | _, _ => false
def shL : Nat → List D → Bool
  | _, [] => true
  | n, d :: ds => shD n d && shL n ds
end
mutual
def eqd : D → D → Bool
  | .non, .non => true
  | .bl a, .bl b => a == b
  | .bl a, .int j => (if a then 1 else 0) == j
  | .int i, .bl b => i == (if b then 1 else 0)
  | .int i, .int j => i == j
  | .str x, .str y => x == y
  | .lst xs, .lst ys => eqdL xs ys
  | .tup xs, .tup ys => eqdL xs ys
  | _, _ => false
def eqdL : List D → List D → Bool
  | [], [] => true
  | x :: xs, y :: ys => eqd x y && eqdL xs ys
  | _, _ => false
end
mutual
theorem sh_ok : ∀ (n : Nat) (d : D), shD n d = true → (pyOf d).canLay0 = true ∧ (pyOf d).depth ≤ n
  | n, .non, _ => by simp [pyOf, PyData.canLay0, PyData.depth]
  | n, .bl _, _ => by simp [pyOf, PyData.canLay0, PyData.depth]
  | n, .int _, _ => by simp [pyOf, PyData.canLay0, PyData.depth]
  | n, .str x, h => by
    unfold shD at h
    refine ⟨?_, by simp [pyOf, PyData.depth]⟩
    unfold pyOf PyData.canLay0
    exact h
  | 0, .tup ds, h => by simp [shD] at h
  | n + 1, .tup ds, h => by
    unfold shD at h
    obtain ⟨a, b⟩ := shL_ok n ds h
    unfold pyOf PyData.canLay0 PyData.depth
    exact ⟨a, Nat.succ_le_succ b⟩
  | 0, .lst ds, h => by simp [shD] at h
  | n + 1, .lst ds, h => by
    unfold shD at h
    obtain ⟨a, b⟩ := shL_ok n ds h
    unfold pyOf PyData.canLay0 PyData.depth
    exact ⟨a, Nat.succ_le_succ b⟩
  | n, .dct _, h => by simp [shD] at h
  | n, .ty _, h => by simp [shD] at h
  | n, .fn _, h => by simp [shD] at h
  | n, .frz _, h => by simp [shD] at h
theorem shL_ok : ∀ (n : Nat) (ds : List D), shL n ds = true → PyData.canLayAll0 (pyOfL ds) = true ∧ PyData.depthAll (pyOfL ds) ≤ n
  | n, [], _ => by simp [pyOfL, PyData.canLayAll0, PyData.depthAll]
  | n, d :: ds, h => by
    unfold shL at h
    obtain ⟨h1, h2⟩ := Bool.and_eq_true_iff.mp h
    obtain ⟨a, b⟩ := sh_ok n d h1
    obtain ⟨a2, b2⟩ := shL_ok n ds h2
    unfold pyOfL PyData.canLayAll0 PyData.depthAll
    exact ⟨by rw [a, a2]; rfl, Nat.max_le.mpr ⟨b, b2⟩⟩
end
mutual
theorem eqd_ok : ∀ (n m : Nat) (a b : D), shD n a = true → shD m b = true → PyData.eqv (pyOf a) (pyOf b) = eqd a b
  | n, m, a, b, h1, h2 => by
    cases a <;> first | (exfalso; simp [shD] at h1; done) | skip
    all_goals cases b <;> first | (exfalso; simp [shD] at h2; done) | skip
    all_goals first
      | (simp only [pyOf, PyData.eqv, eqd]; done)
      | skip
    · rename_i xs ys
      cases n with
      | zero => simp [shD] at h1
      | succ n =>
        cases m with
        | zero => simp [shD] at h2
        | succ m =>
          simp only [pyOf, PyData.eqv, eqd]
          exact eqdL_ok n m xs ys (by simpa [shD] using h1) (by simpa [shD] using h2)
    · rename_i xs ys
      cases n with
      | zero => simp [shD] at h1
      | succ n =>
        cases m with
        | zero => simp [shD] at h2
        | succ m =>
          simp only [pyOf, PyData.eqv, eqd]
          exact eqdL_ok n m xs ys (by simpa [shD] using h1) (by simpa [shD] using h2)
theorem eqdL_ok : ∀ (n m : Nat) (a b : List D), shL n a = true → shL m b = true → PyData.eqvAll (pyOfL a) (pyOfL b) = eqdL a b
  | n, m, [], [], _, _ => by simp [pyOfL, PyData.eqvAll, eqdL]
  | n, m, [], y :: ys, _, _ => by simp [pyOfL, PyData.eqvAll, eqdL]
  | n, m, x :: xs, [], _, _ => by simp [pyOfL, PyData.eqvAll, eqdL]
  | n, m, x :: xs, y :: ys, h1, h2 => by
    unfold shL at h1 h2
    obtain ⟨a1, a2⟩ := Bool.and_eq_true_iff.mp h1
    obtain ⟨b1, b2⟩ := Bool.and_eq_true_iff.mp h2
    simp only [pyOfL, PyData.eqvAll, eqdL]
    rw [eqd_ok n m x y a1 b1, eqdL_ok n m xs ys a2 b2]
end
section
variable {X : Cx} {G : Tab} {H HF : Hp}
mutual
theorem rep_dp (hK : G.K = X.K) (s : Sub HF H) : ∀ (n : Nat) (d : D) (v : V), shD n d = true → Rep G HF d v → Dp X.K H v (pyOf d)
  | n, .non, v, _, r => by unfold Rep at r; subst r; exact .non
  | n, .bl b, v, _, r => by unfold Rep at r; subst r; exact .bl b
  | n, .int i, v, _, r => by unfold Rep at r; subst r; exact .int i
  | n, .str x, v, _, r => by unfold Rep at r; subst r; exact .str x
  | 0, .tup ds, v, h, _ => by simp [shD] at h
  | n + 1, .tup ds, v, h, r => by
    unfold Rep at r
    obtain ⟨a, xs, rfl, q, l⟩ := r
    unfold pyOf
    rw [hK] at q
    exact .tup (SqT.mono s q) (repL_dp hK s n ds xs (by simpa [shD] using h) l)
  | 0, .lst ds, v, h, _ => by simp [shD] at h
  | n + 1, .lst ds, v, h, r => by
    unfold Rep at r
    obtain ⟨a, xs, rfl, q, l⟩ := r
    unfold pyOf
    exact .lst (SqL.of (s _ _ q)) (repL_dp hK s n ds xs (by simpa [shD] using h) l)
  | n, .dct _, _, h, _ => by simp [shD] at h
  | n, .ty _, _, h, _ => by simp [shD] at h
  | n, .fn _, _, h, _ => by simp [shD] at h
  | n, .frz _, _, h, _ => by simp [shD] at h
theorem repL_dp (hK : G.K = X.K) (s : Sub HF H) : ∀ (n : Nat) (ds : List D) (xs : List V), shL n ds = true → RepL G HF ds xs → DpAll X.K H xs (pyOfL ds)
  | n, [], xs, _, r => by unfold RepL at r; subst r; exact .nil
  | n, d :: ds, xs, h, r => by
    unfold RepL at r
    obtain ⟨v, vs, rfl, r1, r2⟩ := r
    unfold shL at h
    obtain ⟨h1, h2⟩ := Bool.and_eq_true_iff.mp h
    unfold pyOfL
    exact .cons (rep_dp hK s n d v h1 r1) (repL_dp hK s n ds vs h2 r2)
end
theorem pk_dp (hK : G.K = X.K) (s : Sub HF H) {n : Nat} {d : D} {v : V} (h : shD (n + 1) d = true) (p : Pk G HF H d v) : Dp X.K H v (pyOf d) := by
  rcases p with r | ⟨a, rfl, o⟩
  · exact rep_dp hK s _ d v h r
  · cases d with
    | lst ds =>
      obtain ⟨xs, e, _, l⟩ := o
      unfold pyOf
      exact .lst (SqL.of e) (repL_dp hK s n ds xs (by simpa [shD] using h) l)
    | _ => exact o.elim
theorem shaped_of {n : Nat} {d : D} (h : shD n d = true) (hn : n ≤ 64) : SeqAt.shaped (pyOf d) = true := by
  obtain ⟨a, b⟩ := sh_ok n d h
  unfold SeqAt.shaped
  rw [a]
  simpa using Nat.le_trans b hn
def fEq (neg : Bool) (a b : D) : Option BR := match shD 12 a && shD 12 b with
  | true => some (.val (.bl (if neg = true then !eqd a b else eqd a b)))
  | false => none
theorem bres_bl {b : Bool} {v : V} : BRes G HF H (.val (.bl b)) (.bl b) H := ⟨rfl, by unfold Rep; rfl⟩
theorem bres_int {i : Int} : BRes G HF H (.val (.int i)) (.int i) H := ⟨rfl, by unfold Rep; rfl⟩
theorem bres_bl' {b : Bool} : BRes G HF H (.val (.bl b)) (.bl b) H := ⟨rfl, by unfold Rep; rfl⟩
theorem ok_eq (hK : G.K = X.K) : OpOk G (rEqD X.K) (fEq false) := by
  intro H HF x y d1 d2 br Q sub p1 p2 e h
  unfold fEq at e
  split at e
  · rename_i z
    obtain ⟨z1, z2⟩ := Bool.and_eq_true_iff.mp z
    cases e
    refine ⟨pyOf d1, pyOf d2, pk_dp hK sub z1 p1, pk_dp hK sub z2 p2, shaped_of z1 (by decide), shaped_of z2 (by decide), ?_⟩
    rw [eqd_ok 12 12 d1 d2 z1 z2]
    exact h _ H bres_bl'
  · cases e
theorem ok_ne (hK : G.K = X.K) : OpOk G (rNeD X.K) (fEq true) := by
  intro H HF x y d1 d2 br Q sub p1 p2 e h
  unfold fEq at e
  split at e
  · rename_i z
    obtain ⟨z1, z2⟩ := Bool.and_eq_true_iff.mp z
    cases e
    refine ⟨pyOf d1, pyOf d2, pk_dp hK sub z1 p1, pk_dp hK sub z2 p2, shaped_of z1 (by decide), shaped_of z2 (by decide), ?_⟩
    rw [eqd_ok 12 12 d1 d2 z1 z2]
    exact h _ H bres_bl'
  · cases e
/-! ints -/
def fI (g : Int → Int → D) : D → D → Option BR
  | .int i, .int j => some (.val (g i j))
  | _, _ => none
theorem ok_int0 {g : Int → Int → V} {g' : Int → Int → D} (hg : ∀ i j, flatD (g' i j) = some (g i j)) : OpOk G (L2.rI0 g) (fI g') := by
  intro H HF x y d1 d2 br Q sub p1 p2 e h
  unfold fI at e
  split at e
  · rename_i i j
    cases e
    exact ⟨i, j, p1.int, p2.int, h _ H ⟨rfl, flat_rep (hg i j)⟩⟩
  · cases e
def fIc (c : Int → Int → Bool) (g : Int → Int → D) : D → D → Option BR
  | .int i, .int j => (match c i j with
    | true => some (.val (g i j))
    | false => none)
  | _, _ => none
theorem ok_intC {C : Int → Int → Prop} {c : Int → Int → Bool} {g : Int → Int → V} {g' : Int → Int → D} (hc : ∀ i j, c i j = true → C i j) (hg : ∀ i j, flatD (g' i j) = some (g i j)) : OpOk G (L2.rI C g) (fIc c g') := by
  intro H HF x y d1 d2 br Q sub p1 p2 e h
  unfold fIc at e
  split at e
  · rename_i i j
    cases q : c i j with
    | false => rw [q] at e; cases e
    | true =>
      rw [q] at e
      cases e
      exact ⟨i, j, p1.int, p2.int, hc i j q, h _ H ⟨rfl, flat_rep (hg i j)⟩⟩
  · cases e
end
end T

-- text T9
set_option Elab.async false
set_option linter.all false
set_option maxRecDepth 100000
set_option maxHeartbeats 4000000
namespace T
open PySem L2
section
variable {X : Cx} {G : Tab} {H HF : Hp}
theorem repL_inj_len {ds : List D} {xs : List V} (r : RepL G HF ds xs) : ds = [] ↔ xs = [] := by
  have := r.length
  constructor
  · rintro rfl; exact List.length_eq_zero_iff.mp (by simpa using this)
  · rintro rfl; exact List.length_eq_zero_iff.mp (by simpa using this.symm)
/-! + -/
def nilD : List D → Bool
  | [] => true
  | _ => false
def fAdd : D → D → Option BR
  | .int i, .int j => some (.val (.int (i + j)))
  | .tup as, .tup bs => (match fitN (as.length + bs.length) with
    | true => (match nilD as with
      | true => some (.val (.tup bs))
      | false => (match nilD bs with
        | true => some (.val (.tup as))
        | false => some (.newT (as ++ bs))))
    | false => none)
  | .lst as, .lst bs => (match fitN (as.length + bs.length) with
    | true => some (.newL (as ++ bs))
    | false => none)
  | _, _ => none
theorem nilD_true {ds : List D} (h : nilD ds = true) : ds = [] := by cases ds with
  | nil => rfl
  | cons _ _ => cases h
theorem nilD_false {ds : List D} (h : nilD ds = false) : ds ≠ [] := by rintro rfl; cases h
def rAddA (K : PySem.W.Frag) : R2 := fun x y H Q => L2.rI0 (fun i j => .int (i + j)) x y H Q ∨ (rCatA K x y H Q ∨ rCat x y H Q)
theorem op_addA : OpR X (binaryOp .Add) (rAddA X.K) := op_add.or (op_catA.or op_cat)
theorem ok_add (hK : G.K = X.K) : OpOk G (rAddA X.K) fAdd := by
  intro H HF x y d1 d2 br Q sub p1 p2 e h
  unfold fAdd at e
  split at e
  · rename_i i j
    cases e
    exact .inl ⟨i, j, p1.int, p2.int, h _ H bres_int⟩
  · rename_i as bs
    obtain ⟨a, xs, rfl, h1, r1⟩ := p1.tup sub
    obtain ⟨b, ys, rfl, h2, r2⟩ := p2.tup sub
    rw [hK] at h1 h2
    cases f : fitN (as.length + bs.length) with
    | false => rw [f] at e; cases e
    | true =>
      rw [f] at e
      simp only at e
      have hz : xs.length + ys.length ≤ sizeLine := by rw [r1.length, r2.length]; exact fitN_ok f
      cases na : nilD as with
      | true =>
        simp only [na] at e
        cases e
        have e1 : xs = [] := (repL_inj_len r1).mp (nilD_true na)
        exact .inr (.inl ⟨a, b, xs, ys, rfl, rfl, h1, h2, hz, fun _ => h _ H ⟨rfl, p2.tupF⟩, fun n => absurd e1 n, fun n => absurd e1 n⟩)
      | false =>
        simp only [na] at e
        have e1 : xs ≠ [] := fun z => nilD_false na ((repL_inj_len r1).mpr z)
        cases nb : nilD bs with
        | true =>
          simp only [nb] at e
          cases e
          have e2 : ys = [] := (repL_inj_len r2).mp (nilD_true nb)
          exact .inr (.inl ⟨a, b, xs, ys, rfl, rfl, h1, h2, hz, fun n => absurd n e1, fun _ _ => h _ H ⟨rfl, p1.tupF⟩, fun _ n => absurd e2 n⟩)
        | false =>
          simp only [nb] at e
          cases e
          have e2 : ys ≠ [] := fun z => nilD_false nb ((repL_inj_len r2).mpr z)
          exact .inr (.inl ⟨a, b, xs, ys, rfl, rfl, h1, h2, hz, fun n => absurd n e1, fun _ n => absurd n e2, fun _ _ p n => h _ _ ⟨p, _, rfl, n, rfl, RepL.append r1 r2⟩⟩)
  · rename_i as bs
    obtain ⟨a, xs, rfl, h1, r1⟩ := p1.lst sub
    obtain ⟨b, ys, rfl, h2, r2⟩ := p2.lst sub
    cases f : fitN (as.length + bs.length) with
    | false => rw [f] at e; cases e
    | true =>
      rw [f] at e
      cases e
      exact .inr (.inr ⟨a, b, xs, ys, rfl, rfl, h1, h2, by rw [r1.length, r2.length]; exact fitN_ok f, fun p n => h _ _ ⟨p, _, rfl, n, rfl, RepL.append r1 r2⟩⟩)
  · cases e
/-! the other operators of ints -/
def fSub := fI fun i j => .int (i - j)
theorem ok_sub : OpOk G (L2.rI0 fun i j => .int (i - j)) fSub := ok_int0 fun _ _ => rfl
def cMul (i j : Int) : Bool := Nat.blt (i.natAbs.log2 + j.natAbs.log2) 1000000
def fMul := fIc cMul fun i j => .int (i * j)
theorem blt_of {a b : Nat} (h : Nat.blt a b = true) : a < b := by simpa [Nat.blt_eq] using h
theorem ok_mul : OpOk G (L2.rI CMulW fun i j => .int (i * j)) fMul := ok_intC (fun i j h => blt_of h) fun _ _ => rfl
def cDiv (_ j : Int) : Bool := decide (0 < j) && Nat.blt j.natAbs.log2 9000
def fDiv := fIc cDiv fun i j => .int (i / j)
theorem ok_div : OpOk G (L2.rI CDivW fun i j => .int (i / j)) fDiv := ok_intC (fun i j h => by
  obtain ⟨a, b⟩ := Bool.and_eq_true_iff.mp h
  exact ⟨of_decide_eq_true a, blt_of b⟩) fun _ _ => rfl
def cMod (_ j : Int) : Bool := decide (0 < j)
def fMod := fIc cMod fun i j => .int (i % j)
theorem ok_mod : OpOk G (L2.rI (fun _ j => 0 < j) fun i j => .int (i % j)) fMod := ok_intC (fun i j h => of_decide_eq_true h) fun _ _ => rfl
def CPowW (i j : Int) : Prop := 0 ≤ j ∧ (Builtin.Int.intBits i : Int) * j ≤ 2 ^ 27
theorem op_powW : OpR X (binaryOp .Pow) (L2.rI CPowW fun i j => .int (i ^ j.toNat)) := opI fun _ _ _ _ _ _ _ hc q => PyProof.Rows.pow_int hc.1 hc.2 q
def cPow (i j : Int) : Bool := decide (0 ≤ j) && decide ((Builtin.Int.intBits i : Int) * j ≤ 134217728)
def fPow := fIc cPow fun i j => .int (i ^ j.toNat)
theorem ok_pow : OpOk G (L2.rI CPowW fun i j => .int (i ^ j.toNat)) fPow := ok_intC (fun i j h => by
  obtain ⟨a, b⟩ := Bool.and_eq_true_iff.mp h
  exact ⟨of_decide_eq_true a, by have := of_decide_eq_true b; omega⟩) fun _ _ => rfl
def fLt := fI fun i j => .bl (decide (i < j))
def fLe := fI fun i j => .bl (decide (i ≤ j))
def fGt := fI fun i j => .bl (decide (j < i))
def fGe := fI fun i j => .bl (decide (j ≤ i))
theorem ok_lt : OpOk G (L2.rI0 fun i j => .bl (decide (i < j))) fLt := ok_int0 fun _ _ => rfl
theorem ok_le : OpOk G (L2.rI0 fun i j => .bl (decide (i ≤ j))) fLe := ok_int0 fun _ _ => rfl
theorem ok_gt : OpOk G (L2.rI0 fun i j => .bl (decide (j < i))) fGt := ok_int0 fun _ _ => rfl
theorem ok_ge : OpOk G (L2.rI0 fun i j => .bl (decide (j ≤ i))) fGe := ok_int0 fun _ _ => rfl
/-! in, of ints -/
def intsOf : List D → Option (List Int)
  | [] => some []
  | .int i :: ds => (match intsOf ds with
    | some is => some (i :: is)
    | none => none)
  | _ :: _ => none
theorem intsOf_rep : ∀ {ds : List D} {is : List Int} {xs : List V}, intsOf ds = some is → RepL G HF ds xs → xs = is.map V.int
  | [], is, xs, e, r => by cases e; unfold RepL at r; exact r
  | d :: ds, is, xs, e, r => by
    unfold RepL at r
    obtain ⟨v, vs, rfl, r1, r2⟩ := r
    cases d with
    | int i =>
      unfold intsOf at e
      cases q : intsOf ds with
      | none => rw [q] at e; cases e
      | some js =>
        rw [q] at e
        cases e
        unfold Rep at r1
        rw [r1, intsOf_rep q r2]
        rfl
    | _ => cases e
def memI (i : Int) : List Int → Bool
  | [] => false
  | j :: js => (match decide (j = i) with
    | true => true
    | false => memI i js)
def fIn (neg : Bool) : D → D → Option BR
  | .int i, .tup ds => (match intsOf ds with
    | some is => some (.val (.bl (if neg = true then !memI i is else memI i is)))
    | none => none)
  | .int i, .lst ds => (match intsOf ds with
    | some is => some (.val (.bl (if neg = true then !memI i is else memI i is)))
    | none => none)
  | _, _ => none
theorem memI_inV (i : Int) : ∀ is : List Int, inV (.int i) (is.map V.int) = memI i is
  | [] => rfl
  | j :: js => by
    have ih := memI_inV i js
    unfold inV at ih ⊢
    rw [List.map_cons, List.any_cons, ih]
    show ((j == i) || memI i js) = memI i (j :: js)
    rw [memI]
    by_cases h : j = i
    · subst h; simp
    · have e : (j == i) = false := by simpa using h
      rw [e, decide_eq_false h]
      rfl
theorem flat_all : ∀ is : List Int, (is.map V.int).all flatV = true
  | [] => rfl
  | _ :: js => by rw [List.map_cons, List.all_cons, flat_all js]; rfl
theorem ok_in (hK : G.K = X.K) (neg : Bool) : OpOk G (rIn X.K neg) (fIn neg) := by
  intro H HF x y d1 d2 br Q sub p1 p2 e h
  unfold fIn at e
  split at e
  · rename_i i ds
    obtain ⟨a, xs, rfl, h1, r1⟩ := p2.tup sub
    cases q : intsOf ds with
    | none => rw [q] at e; cases e
    | some is =>
      rw [q] at e
      cases e
      have ex := intsOf_rep q r1
      subst ex
      rw [hK] at h1
      refine ⟨a, _, rfl, .inr h1, by rw [p1.int]; rfl, flat_all is, ?_⟩
      rw [p1.int, memI_inV]
      exact h _ H bres_bl'
  · rename_i i ds
    obtain ⟨a, xs, rfl, h1, r1⟩ := p2.lst sub
    cases q : intsOf ds with
    | none => rw [q] at e; cases e
    | some is =>
      rw [q] at e
      cases e
      have ex := intsOf_rep q r1
      subst ex
      refine ⟨a, _, rfl, .inl (SqL.of h1), by rw [p1.int]; rfl, flat_all is, ?_⟩
      rw [p1.int, memI_inV]
      exact h _ H bres_bl'
  · cases e
/-! built-ins -/
theorem pks_one {d : D} {xs : List V} (h : Pks G HF H [d] xs) : ∃ v, xs = [v] ∧ Pk G HF H d v := by
  cases h with
  | cons a b => cases b; exact ⟨_, rfl, a⟩
theorem pks_two {d d2 : D} {xs : List V} (h : Pks G HF H [d, d2] xs) : ∃ v v2, xs = [v, v2] ∧ Pk G HF H d v ∧ Pk G HF H d2 v2 := by
  cases h with
  | cons a b =>
    cases b with
    | cons a2 b => cases b; exact ⟨_, _, rfl, a, a2⟩
def bLen : List D → Option BR
  | [.lst ds] => some (.val (.int ds.length))
  | [.tup ds] => some (.val (.int ds.length))
  | [.frz ds] => some (.val (.int ds.length))
  | _ => none
theorem ok_len (hK : G.K = X.K) : CallOk G (fun xs H Q => ∃ p ys, xs = [.ref p] ∧ (SqL X.K H p ys ∨ SqT X.K H p ys) ∧ Q (.int ys.length) H) bLen := by
  intro H HF xs ds br Q sub p e h
  unfold bLen at e
  split at e
  · obtain ⟨v, rfl, q⟩ := pks_one p
    obtain ⟨a, ys, rfl, h1, r⟩ := q.lst sub
    cases e
    exact ⟨a, ys, rfl, .inl (SqL.of h1), by rw [r.length]; exact h _ H bres_int⟩
  · obtain ⟨v, rfl, q⟩ := pks_one p
    obtain ⟨a, ys, rfl, h1, r⟩ := q.tup sub
    cases e
    rw [hK] at h1
    exact ⟨a, ys, rfl, .inr h1, by rw [r.length]; exact h _ H bres_int⟩
  · obtain ⟨v, rfl, q⟩ := pks_one p
    obtain ⟨a, ys, rfl, h1, r⟩ := q.frz sub
    cases e
    rw [hK] at h1
    exact ⟨a, ys, rfl, .inl h1, by rw [r.length]; exact h _ H bres_int⟩
  · cases e
def boolsOf : List D → Option (List Bool)
  | [] => some []
  | .bl i :: ds => (match boolsOf ds with
    | some is => some (i :: is)
    | none => none)
  | _ :: _ => none
theorem boolsOf_rep : ∀ {ds : List D} {is : List Bool} {xs : List V}, boolsOf ds = some is → RepL G HF ds xs → xs = is.map V.bl
  | [], is, xs, e, r => by cases e; unfold RepL at r; exact r
  | d :: ds, is, xs, e, r => by
    unfold RepL at r
    obtain ⟨v, vs, rfl, r1, r2⟩ := r
    cases d with
    | bl i =>
      unfold boolsOf at e
      cases q : boolsOf ds with
      | none => rw [q] at e; cases e
      | some js =>
        rw [q] at e
        cases e
        unfold Rep at r1
        rw [r1, boolsOf_rep q r2]
        rfl
    | _ => cases e
def bAll : List D → Option BR
  | [.lst ds] => (match boolsOf ds with
    | some bs => some (.val (.bl (bs.all id)))
    | none => none)
  | _ => none
theorem ok_all : CallOk G (rAll X.K) bAll := by
  intro H HF xs ds br Q sub p e h
  unfold bAll at e
  split at e
  · rename_i ds
    obtain ⟨v, rfl, q⟩ := pks_one p
    obtain ⟨a, ys, rfl, h1, r⟩ := q.lst sub
    cases q2 : boolsOf ds with
    | none => rw [q2] at e; cases e
    | some bs =>
      rw [q2] at e
      cases e
      have ex := boolsOf_rep q2 r
      subst ex
      exact ⟨a, bs, rfl, SqL.of h1, h _ H bres_bl'⟩
  · cases e
def bAny : List D → Option BR
  | [.lst ds] => (match boolsOf ds with
    | some bs => some (.val (.bl (bs.any id)))
    | none => none)
  | _ => none
theorem ok_any : CallOk G (rAny X.K) bAny := by
  intro H HF xs ds br Q sub p e h
  unfold bAny at e
  split at e
  · rename_i ds
    obtain ⟨v, rfl, q⟩ := pks_one p
    obtain ⟨a, ys, rfl, h1, r⟩ := q.lst sub
    cases q2 : boolsOf ds with
    | none => rw [q2] at e; cases e
    | some bs =>
      rw [q2] at e
      cases e
      have ex := boolsOf_rep q2 r
      subst ex
      exact ⟨a, bs, rfl, SqL.of h1, h _ H bres_bl'⟩
  · cases e
def bSumL : List D → Option BR
  | [.lst ds] => (match intsOf ds with
    | some is => some (.val (.int is.sum))
    | none => none)
  | _ => none
theorem ok_sumL : CallOk G (rSum X.K) bSumL := by
  intro H HF xs ds br Q sub p e h
  unfold bSumL at e
  split at e
  · rename_i ds
    obtain ⟨v, rfl, q⟩ := pks_one p
    obtain ⟨a, ys, rfl, h1, r⟩ := q.lst sub
    cases q2 : intsOf ds with
    | none => rw [q2] at e; cases e
    | some bs =>
      rw [q2] at e
      cases e
      have ex := intsOf_rep q2 r
      subst ex
      exact ⟨a, bs, rfl, SqL.of h1, h _ H bres_int⟩
  · cases e
def bInt : List D → Option BR
  | [.int i] => some (.val (.int i))
  | [.bl b] => some (.val (.int (if b then 1 else 0)))
  | _ => none
theorem ok_intc : CallOk G (fun xs H Q => (∃ i, xs = [.int i] ∧ Q (.int i) H) ∨ ∃ k, xs = [.bl k] ∧ Q (.int (if k then 1 else 0)) H) bInt := by
  intro H HF xs ds br Q sub p e h
  unfold bInt at e
  split at e
  · obtain ⟨v, rfl, q⟩ := pks_one p
    cases e
    exact .inl ⟨_, by rw [q.int], h _ H bres_int⟩
  · obtain ⟨v, rfl, q⟩ := pks_one p
    cases e
    exact .inr ⟨_, by rw [q.bl], h _ H bres_int⟩
  · cases e
def bAbs : List D → Option BR
  | [.int i] => some (.val (.int (if i < 0 then -i else i)))
  | _ => none
theorem ok_abs : CallOk G (fun xs H Q => ∃ i, xs = [.int i] ∧ Q (.int (if i < 0 then -i else i)) H) bAbs := by
  intro H HF xs ds br Q sub p e h
  unfold bAbs at e
  split at e
  · obtain ⟨v, rfl, q⟩ := pks_one p
    cases e
    exact ⟨_, by rw [q.int], h _ H bres_int⟩
  · cases e
def bMax2 : List D → Option BR
  | [.int i, .int j] => some (.val (.int (if j > i then j else i)))
  | _ => none
theorem ok_max2 : CallOk G (fun xs H Q => ∃ i j, xs = [.int i, .int j] ∧ Q (.int (if j > i then j else i)) H) bMax2 := by
  intro H HF xs ds br Q sub p e h
  unfold bMax2 at e
  split at e
  · obtain ⟨v, v2, rfl, q, q2⟩ := pks_two p
    cases e
    exact ⟨_, _, by rw [q.int, q2.int], h _ H bres_int⟩
  · cases e
def bMin2 : List D → Option BR
  | [.int i, .int j] => some (.val (.int (if j < i then j else i)))
  | _ => none
theorem ok_min2 : CallOk G (fun xs H Q => ∃ i j, xs = [.int i, .int j] ∧ Q (.int (if j < i then j else i)) H) bMin2 := by
  intro H HF xs ds br Q sub p e h
  unfold bMin2 at e
  split at e
  · obtain ⟨v, v2, rfl, q, q2⟩ := pks_two p
    cases e
    exact ⟨_, _, by rw [q.int, q2.int], h _ H bres_int⟩
  · cases e
def bTuple : List D → Option BR
  | [.lst ds] => some (.newT ds)
  | [.tup ds] => some (.val (.tup ds))
  | _ => none
theorem ok_tuple (hK : G.K = X.K) : CallOk G (fun xs H Q => ∃ p ys, xs = [.ref p] ∧ ((SqL X.K H p ys ∧ ∀ l, H l = none → Q (.ref l) (upd H l (.tup ys))) ∨ (SqT X.K H p ys ∧ Q (.ref p) H))) bTuple := by
  intro H HF xs ds br Q sub p e h
  unfold bTuple at e
  split at e
  · obtain ⟨v, rfl, q⟩ := pks_one p
    obtain ⟨a, ys, rfl, h1, r⟩ := q.lst sub
    cases e
    exact ⟨a, ys, rfl, .inl ⟨SqL.of h1, fun l n => h _ _ ⟨l, ys, rfl, n, rfl, r⟩⟩⟩
  · obtain ⟨v, rfl, q⟩ := pks_one p
    have qf := q.tupF
    obtain ⟨a, ys, rfl, h1, r⟩ := q.tup sub
    cases e
    rw [hK] at h1
    exact ⟨a, ys, rfl, .inr ⟨h1, h _ H ⟨rfl, qf⟩⟩⟩
  · cases e
def bList : List D → Option BR
  | [.lst ds] => some (.newL ds)
  | [.tup ds] => some (.newL ds)
  | _ => none
theorem ok_list (hK : G.K = X.K) : CallOk G (fun xs H Q => ∃ p ys, xs = [.ref p] ∧ (SqL X.K H p ys ∨ SqT X.K H p ys) ∧ ∀ l, H l = none → Q (.ref l) (upd H l (.lst ys))) bList := by
  intro H HF xs ds br Q sub p e h
  unfold bList at e
  split at e
  · obtain ⟨v, rfl, q⟩ := pks_one p
    obtain ⟨a, ys, rfl, h1, r⟩ := q.lst sub
    cases e
    exact ⟨a, ys, rfl, .inl (SqL.of h1), fun l n => h _ _ ⟨l, ys, rfl, n, rfl, r⟩⟩
  · obtain ⟨v, rfl, q⟩ := pks_one p
    obtain ⟨a, ys, rfl, h1, r⟩ := q.tup sub
    cases e
    rw [hK] at h1
    exact ⟨a, ys, rfl, .inr h1, fun l n => h _ _ ⟨l, ys, rfl, n, rfl, r⟩⟩
  · cases e
/-! isinstance -/
inductive Kd where
  | non | bl | int | str | tup | lst | dct
def Kd.nm : Kd → String
  | .non => "NoneType" | .bl => "bool" | .int => "int" | .str => "str" | .tup => "tuple" | .lst => "list" | .dct => "dict"
def kdOf : D → Option Kd
  | .non => some .non | .bl _ => some .bl | .int _ => some .int | .str _ => some .str | .tup _ => some .tup | .lst _ => some .lst | .dct _ => some .dct | _ => none
def isK (k : Kd) (T : String) : Option Bool := if T = "tuple" then some (match k with | .tup => true | _ => false)
    else if T = "int" then some (match k with | .int => true | .bl => true | _ => false)
    else if T = "bool" then some (match k with | .bl => true | _ => false)
    else if T = "str" then some (match k with | .str => true | _ => false)
    else if T = "list" then some (match k with | .lst => true | _ => false)
    else if T = "dict" then some (match k with | .dct => true | _ => false)
    else none
theorem isK_ok {K : PySem.W.Frag} (k : Kd) (T : String) (b : Bool) (h : isK k T = some b) : PySem.W.kitOne K (.type k.nm) (.type T) = some b := by
  unfold isK at h
  split at h
  · rename_i e; subst e
    cases k <;> (cases h; exact kit_ty (by decide +kernel))
  split at h
  · rename_i e; subst e
    cases k <;> (cases h; exact kit_ty (by decide +kernel))
  split at h
  · rename_i e; subst e
    cases k <;> (cases h; exact kit_ty (by decide +kernel))
  split at h
  · rename_i e; subst e
    cases k <;> (cases h; exact kit_ty (by decide +kernel))
  split at h
  · rename_i e; subst e
    cases k <;> (cases h; exact kit_ty (by decide +kernel))
  split at h
  · rename_i e; subst e
    cases k <;> (cases h; exact kit_ty (by decide +kernel))
  · cases h
theorem tyx_of (hK : G.K = X.K) (sub : Sub HF H) {d : D} {v : V} {k : Kd} (h : kdOf d = some k) (p : Pk G HF H d v) : TyX X.K H v (.type k.nm) := by
  cases d with
  | non => cases h; rw [p.non]; exact .base .non
  | bl b => cases h; rw [p.bl]; exact .base (.bl b)
  | int i => cases h; rw [p.int]; exact .base (.int i)
  | str x => cases h; rw [p.str]; exact .base (.str x)
  | tup ds =>
    cases h
    obtain ⟨a, xs, rfl, q, _⟩ := p.tup sub
    rw [hK] at q
    rcases q with (q | ⟨o, q⟩) | ⟨o, its, n, q1, q2, _⟩
    · exact .base (.tup q)
    · exact .fTuple q
    · exact .kTuple q1 q2
  | lst ds =>
    cases h
    obtain ⟨a, xs, rfl, q, _⟩ := p.lst sub
    exact .base (.lst q)
  | dct kvs =>
    cases h
    rcases p with r | ⟨_, _, o⟩
    · unfold Rep at r
      obtain ⟨_, a, rfl, q⟩ := r
      exact .base (.dK (sub _ _ q))
    · exact o.elim
  | _ => cases h
def bIsi : List D → Option BR
  | [d, .ty T] => (match kdOf d with
    | some k => (match isK k T with
      | some b => some (.val (.bl b))
      | none => none)
    | none => none)
  | _ => none
theorem ok_isi (hK : G.K = X.K) : CallOk G (rIsi X.K) bIsi := by
  intro H HF xs ds br Q sub p e h
  unfold bIsi at e
  split at e
  · rename_i d T
    obtain ⟨v, v2, rfl, q, q2⟩ := pks_two p
    cases k1 : kdOf d with
    | none => rw [k1] at e; cases e
    | some k =>
      rw [k1] at e
      simp only at e
      cases k2 : isK k T with
      | none => rw [k2] at e; cases e
      | some b =>
        rw [k2] at e
        cases e
        rw [q2.ty]
        exact ⟨v, .ty T, _, _, b, rfl, .ty T, tyx_of hK sub k1 q, isK_ok k T b k2, h _ H bres_bl'⟩
  · cases e
end
end T

-- text T10
set_option Elab.async false
set_option linter.all false
set_option maxRecDepth 100000
set_option maxHeartbeats 4000000
namespace T
open PySem L2
section
variable {X : Cx} {G : Tab} {W : Wt} {σ : L2.St} {H HF HF' : Hp} {γ : Gam} {E : Ends}
/-! an own list is changed -/
def Sl.lst : Sl → Option (List D)
  | .own (.lst ds) => some ds
  | .io (.lst ds) => some ds
  | _ => none
def Sl.putL : Sl → List D → Sl
  | .own _, ds => .own (.lst ds)
  | .io _, ds => .io (.lst ds)
  | s, _ => s
theorem Sl.lst_owns {s : Sl} {ds : List D} (h : s.lst = some ds) : s.owns = true ∧ (s = .own (.lst ds) ∨ s = .io (.lst ds)) := by
  unfold Sl.lst at h
  split at h
  · cases h; exact ⟨rfl, .inl rfl⟩
  · cases h; exact ⟨rfl, .inr rfl⟩
  · cases h
theorem Sl.put_owns {s : Sl} {ds es : List D} (h : s.lst = some ds) : (s.putL es).owns = true ∧ (s.putL es).isIo = s.isIo := by
  rcases (Sl.lst_owns h).2 with rfl | rfl <;> exact ⟨rfl, rfl⟩
theorem own_lst (k : Ok G σ H HF γ) {i : Nat} {s : Sl} {ds : List D} (e : γ[i]? = some s) (h : s.lst = some ds) : ∃ a xs, σ[i]? = some (some (.ref a)) ∧ OwnAt σ γ i a ∧ H a = some (.lst xs) ∧ HF a = none ∧ RepL G HF ds xs := by
  have z := k.sl i s e
  obtain ⟨w, q⟩ := Sl.lst_owns h
  rcases q with rfl | rfl
  · obtain ⟨a, ea, xs, h1, h2, r⟩ := z
    exact ⟨a, xs, join_eq ea, ownAt_of e rfl ea, h1, h2, r⟩
  · obtain ⟨a, ea, xs, h1, h2, r⟩ := z
    exact ⟨a, xs, join_eq ea, ownAt_of e rfl ea, h1, h2, r⟩
theorem own_put (k : Ok G σ H HF γ) {i : Nat} {s : Sl} {ds es : List D} {a : Addr} {ys : List V} (e : γ[i]? = some s) (h : s.lst = some ds) (o : OwnAt σ γ i a) (r : RepL G HF es ys) :
    Ok G σ (upd H a (.lst ys)) HF (γ.set i (s.putL es)) ∧ Stp σ γ H HF σ (γ.set i (s.putL es)) (upd H a (.lst ys)) HF := by
  obtain ⟨u, ea, na⟩ := k.own o
  have hl : i < γ.length := (List.getElem?_eq_some_iff.mp e).1
  obtain ⟨pw, pio⟩ := Sl.put_owns (es := es) h
  have ow : ∀ {j b}, OwnAt σ (γ.set i (s.putL es)) j b → OwnAt σ γ j b := fun {j b} q => by
    obtain ⟨⟨t, et, w⟩, q⟩ := q
    rcases getE_set et with ⟨rfl, _, _⟩ | ⟨_, et⟩
    · exact ⟨⟨s, e, (Sl.lst_owns h).1⟩, q⟩
    · exact ⟨⟨t, et, w⟩, q⟩
  refine ⟨⟨fun b v q => ?_, by rw [List.length_set]; exact k.len, fun j t et => ?_, fun j l b h1 h2 => k.dis j l b (ow h1) (ow h2)⟩, ⟨Sub.refl _, fun b nb nw => ⟨upd_ne fun z => nw i (by rw [z]; exact o), rfl⟩, fun j b q => .inl ⟨j, ow q⟩, fun j t et w => ?_⟩⟩
  · rw [upd_ne (fun z => by rw [z, na] at q; cases q)]
    exact k.sub _ _ q
  · rcases getE_set et with ⟨rfl, rfl, _⟩ | ⟨n, et⟩
    · have q := o.2
      rcases (Sl.lst_owns h).2 with rfl | rfl
      · exact ⟨a, by rw [q]; rfl, ys, upd_same, na, r⟩
      · exact ⟨a, by rw [q]; rfl, ys, upd_same, na, r⟩
    · refine (k.sl j t et).keep (Sub.refl _) fun b w q => ?_
      have ob := ownAt_of et w q
      exact ⟨upd_ne fun z => n (k.dis _ _ _ (by rw [← z]; exact ob) o), (k.own ob).elim fun _ z => z.2⟩
  · by_cases n : j = i
    · subst n
      rw [e] at et; cases et
      exact ⟨⟨_, List.getElem?_set_self hl, by rw [pio]; exact w⟩, rfl⟩
    · exact ⟨⟨t, by rw [List.getElem?_set_ne (Ne.symm n)]; exact et, w⟩, rfl⟩
/-- x.m(..) of a list in slot i, by what m does: the arguments' data, the list; what comes back, the new list -/
def eMeth (i : Nat) (f : List D → List D → Option (D × List D)) (ms : Gam → Out (List Ar)) : Gam → Out R := fun γ => match γ[i]? with
  | some s0 => (match s0.lst with
    | some _ => (ms γ).bind fun as γ1 => (match dsOf as with
      | some args => (match γ1[i]? with
        | some s => (match s.lst with
          | some ds => (match f args ds with
            | some (d, es) => .ok (.fz d) (γ1.set i (s.putL es))
            | none => .bad)
          | none => .bad)
        | none => .bad)
      | none => .bad)
    | none => .bad)
  | none => .bad
def MethOk (G : Tab) (r : V → List V → Hp → VK → Prop) (f : List D → List D → Option (D × List D)) : Prop :=
  ∀ {H HF : Hp} {a : Addr} {xs : List V} {vs : List V} {args ds es : List D} {d : D} {Q : VK}, Sub HF H → H a = some (.lst xs) → RepL G HF ds xs → RepL G HF args vs → f args ds = some (d, es) →
    (∀ v ys, RepL G HF es ys → Rep G HF d v → Q v (upd H a (.lst ys))) → r (.ref a) vs H Q
theorem te_meth {i : Nat} {r : V → List V → Hp → VK → Prop} {f : List D → List D → Option (D × List D)} {ms : Gam → Out (List Ar)} {Q : VK} (F : MethOk G r f) (h : tE G W (eMeth i f ms) σ H Q) : tBM X.K "list" r (tO G W (oSl i)) (tA G W ms) σ H Q := by
  obtain ⟨HF, γ, k, p⟩ := h
  unfold eMeth at p
  cases e0 : γ[i]? with
  | none => rw [e0] at p; exact p.elim
  | some s0 =>
  rw [e0] at p
  simp only at p
  cases l0 : s0.lst with
  | none => rw [l0] at p; exact p.elim
  | some ds0 =>
  rw [l0] at p
  simp only at p
  obtain ⟨a, xs0, q0, o0, h0, n0, _⟩ := own_lst k e0 l0
  have eo : oSl i γ = .ok (.sl i) γ := by
    unfold oSl
    rw [e0]
    rcases (Sl.lst_owns l0).2 with rfl | rfl <;> rfl
  refine ⟨HF, γ, k, ?_⟩
  rw [eo]
  intro v H1 HF1 k1 s1 rv
  have rv' : σ[i]? = some (some v) := rv
  rw [q0] at rv'
  cases rv'
  obtain ⟨a1, xs1, q1, o1, h1, n1, _⟩ := own_lst k1 e0 l0
  rw [q0] at q1
  cases q1
  refine ⟨.inl ⟨rfl, xs1, SqL.of h1⟩, HF1, γ, k1, post_bind (r1 := rA G) (post_from later_E s1 p) fun as γ1 vs H2 HF2 k2 s2 ra p2 => ?_⟩
  have p2 := post_from later_E s2 p2
  cases e1 : dsOf as with
  | none => rw [e1] at p2; exact p2.elim
  | some args =>
  rw [e1] at p2
  simp only at p2
  cases e2 : γ1[i]? with
  | none => rw [e2] at p2; exact p2.elim
  | some s =>
  rw [e2] at p2
  simp only at p2
  cases e3 : s.lst with
  | none => rw [e3] at p2; exact p2.elim
  | some ds =>
  rw [e3] at p2
  simp only at p2
  cases e4 : f args ds with
  | none => rw [e4] at p2; exact p2.elim
  | some r4 =>
  obtain ⟨d, es⟩ := r4
  rw [e4] at p2
  obtain ⟨a2, xs2, q2, o2, h2, n2, rl⟩ := own_lst k2 e2 e3
  rw [q0] at q2
  cases q2
  refine F k2.sub h2 rl (dsOf_rep ra e1) e4 fun v ys ry rd => ?_
  obtain ⟨k3, s3⟩ := own_put k2 e2 e3 o2 ry
  exact p2 v _ HF2 k3 s3 rd
theorem tpe_meth {id : String} {name : Str} {apos cpos : Pos} {o e : Expr} {es : List Expr} {i : Nat} {r : V → List V → Hp → VK → Prop} {f : List D → List D → Option (D × List D)} {ms : Gam → Out (List Ar)} (slot : Slot "list" name id) (hty : typeOf (.builtin id) = pure (.type "method_descriptor")) (hm : MtR X id r) (F : MethOk G r f)
    (ho : PE X o (tO G W (oSl i))) (ha : PA X (e :: es) (tA G W ms)) (hbase : attributeBase o name X.env (eval o X.env) = eval o X.env)
    (hfew : ((backTo cpos (starEach (e :: es) X.env)).all (fun x => !x.1) && (backToKw cpos (keywordEach [] X.env)).all (fun x => x.1.isSome)
      && decide ((e :: es).length + ([] : List Keyword).length + (if ([] : List Keyword).isEmpty then 0 else 1) < 30)) = true)
    (hline : (apos.endLine == cpos.line) = true) (hs : starEach (e :: es) X.env = (false, eval e X.env) :: starEach es X.env) (hplain : (backTo cpos (starEach es X.env)).any (·.1) = false) :
    PE X (.Call (.Attribute o name apos) (e :: es) [] cpos) (tE G W (eMeth i f ms)) :=
  ⟨fun pins s σ H Q I h => (pe_bm PySem.F.plainAttrs_list slot hty hm ho ha hbase hfew hline hs hplain).run pins s σ H Q I (te_meth F h)⟩
def fAppend : List D → List D → Option (D × List D)
  | [d], ds => (match fitN (ds.length + 1) with
    | true => some (.non, ds ++ [d])
    | false => none)
  | _, _ => none
theorem repL_one {d : D} {vs : List V} (h : RepL G HF [d] vs) : ∃ v, vs = [v] ∧ Rep G HF d v := by
  unfold RepL at h
  obtain ⟨v, ws, rfl, r, q⟩ := h
  unfold RepL at q
  subst q
  exact ⟨v, rfl, r⟩
theorem ok_append : MethOk G rAppend fAppend := by
  intro H HF a xs vs args ds es d Q sub h r p e k
  unfold fAppend at e
  split at e
  · rename_i d'
    obtain ⟨v, rfl, q⟩ := repL_one p
    split at e
    · rename_i f
      cases e
      exact ⟨a, xs, v, rfl, rfl, h, by rw [r.length]; exact Nat.lt_of_succ_le (fitN_ok f), k .non _ (RepL.append r (.one q)) (flat_rep (d := .non) rfl)⟩
    · cases e
  · cases e
def fExtend : List D → List D → Option (D × List D)
  | [.lst es], ds => (match fitN (ds.length + es.length) with
    | true => some (.non, ds ++ es)
    | false => none)
  | _, _ => none
theorem ok_extend : MethOk G rExtend fExtend := by
  intro H HF a xs vs args ds es d Q sub h r p e k
  unfold fExtend at e
  split at e
  · rename_i es'
    obtain ⟨v, rfl, q⟩ := repL_one p
    unfold Rep at q
    obtain ⟨b, ys, rfl, h1, r1⟩ := q
    split at e
    · rename_i f
      cases e
      exact ⟨a, b, xs, ys, rfl, rfl, h, sub _ _ h1, by rw [r.length, r1.length]; exact fitN_ok f, k .non _ (RepL.append r r1) (flat_rep (d := .non) rfl)⟩
    · cases e
  · cases e
def fPopAt : List D → List D → Option (D × List D)
  | [.int i], ds => (match decide (-9223372036854775808 ≤ i) && decide (i < 9223372036854775808) with
    | true => (match seqIndex? i ds.length with
      | some j => (match ds[j]? with
        | some d => some (d, ds.eraseIdx j)
        | none => none)
      | none => none)
    | false => none)
  | _, _ => none
theorem RepL.erase : ∀ {ds : List D} {xs : List V} (j : Nat), RepL G HF ds xs → RepL G HF (ds.eraseIdx j) (xs.eraseIdx j)
  | [], xs, j, h => by unfold RepL at h; subst h; exact .nil
  | d :: ds, xs, 0, h => by
    unfold RepL at h
    obtain ⟨v, vs, rfl, _, q⟩ := h
    exact q
  | d :: ds, xs, j + 1, h => by
    unfold RepL at h
    obtain ⟨v, vs, rfl, r, q⟩ := h
    exact .cons r (RepL.erase j q)
theorem ok_popAt : MethOk G rPopAt fPopAt := by
  intro H HF a xs vs args ds es d Q sub h r p e k
  unfold fPopAt at e
  split at e
  · rename_i i
    obtain ⟨v, rfl, q⟩ := repL_one p
    unfold Rep at q
    subst q
    split at e
    · rename_i z
      obtain ⟨z1, z2⟩ := Bool.and_eq_true_iff.mp z
      split at e
      · rename_i j e1
        split at e
        · rename_i d' e2
          cases e
          obtain ⟨y, ey, ry⟩ := r.get e2
          exact ⟨a, xs, i, j, y, rfl, rfl, h, by have := of_decide_eq_true z1; omega, by have := of_decide_eq_true z2; omega, by rw [r.length]; exact e1, ey, k y _ (RepL.erase j r) ry⟩
        · cases e
      · cases e
    · cases e
  · cases e
/-! x[i] = v of a list in slot x -/
def sSetIx (x : Nat) (me : Gam → Out Ar) (mi : Gam → Out Ar) : Gam → OutS := fun γ => (me γ).toS fun a γ1 => match a with
  | .sl _ => .bad
  | .d d => (match γ1[x]? with
    | some s0 => (match s0.lst with
      | some _ => (mi γ1).toS fun b γ2 => (match look γ2 b with
        | some (.int i) => (match γ2[x]? with
          | some s => (match s.lst with
            | some ds => (match ixN ds.length i with
              | some j => .nx (γ2.set x (s.putL (ds.set j d)))
              | none => .bad)
            | none => .bad)
          | none => .bad)
        | _ => .bad)
      | none => .bad)
    | none => .bad)
theorem RepL.set' : ∀ {ds : List D} {xs : List V} {d : D} {v : V} (j : Nat), RepL G HF ds xs → Rep G HF d v → RepL G HF (ds.set j d) (xs.set j v)
  | [], xs, d, v, j, h, _ => by unfold RepL at h; subst h; exact .nil
  | d0 :: ds, xs, d, v, 0, h, r => by
    unfold RepL at h
    obtain ⟨w, vs, rfl, _, q⟩ := h
    exact .cons r q
  | d0 :: ds, xs, d, v, j + 1, h, r => by
    unfold RepL at h
    obtain ⟨w, vs, rfl, r0, q⟩ := h
    exact .cons r0 (RepL.set' j q r)
theorem ts_setIx {x : Nat} {me mi : Gam → Out Ar} (h : tS G W (sSetIx x me mi) E σ H) : tAsg (tO G W me) (gSub (tO G W (oSl x)) (tO G W mi) rSetL) E σ H := by
  obtain ⟨HF, γ, k, p⟩ := h
  refine ⟨HF, γ, k, postS_bind (r1 := rO G) p fun a γ1 v H1 HF1 k1 s1 r1 p1 => ?_⟩
  cases a with
  | sl i => exact p1.elim
  | d d =>
  simp only at p1
  have rd : Rep G HF1 d v := r1
  have p1 := postS_from s1 p1
  cases e0 : γ1[x]? with
  | none => rw [e0] at p1; exact p1.elim
  | some s0 =>
  rw [e0] at p1
  simp only at p1
  cases l0 : s0.lst with
  | none => rw [l0] at p1; exact p1.elim
  | some ds0 =>
  rw [l0] at p1
  simp only at p1
  obtain ⟨a, xs0, q0, o0, h0, n0, _⟩ := own_lst k1 e0 l0
  have eo : oSl x γ1 = .ok (.sl x) γ1 := by
    unfold oSl
    rw [e0]
    rcases (Sl.lst_owns l0).2 with rfl | rfl <;> rfl
  refine ⟨HF1, γ1, k1, ?_⟩
  rw [eo]
  intro w H2 HF2 k2 s2 rv
  have rv' : σ[x]? = some (some w) := rv
  rw [q0] at rv'
  cases rv'
  refine ⟨HF2, γ1, k2, postS_bind (r1 := rO G) (postS_from s2 p1) fun b γ2 u H3 HF3 k3 s3 r3 p3 => ?_⟩
  have p3 := postS_from s3 p3
  split at p3
  · rename_i i el
    split at p3
    · rename_i s e2
      split at p3
      · rename_i ds e3
        split at p3
        · rename_i j ej
          obtain ⟨a2, xs2, q2, o2, h2, n2, rl⟩ := own_lst k3 e2 e3
          rw [q0] at q2
          cases q2
          have re := RepL.set' j rl (Rep.mono (s2.mono.trans s3.mono) _ _ rd)
          obtain ⟨k4, s4⟩ := own_put k3 e2 e3 o2 re
          exact ⟨a, xs2, i, j, rfl, (look_pk k3 r3 el).int, h2, by rw [rl.length]; exact ej, p3 σ _ HF3 k4 s4⟩
        · exact p3.elim
      · exact p3.elim
    · exact p3.elim
  · exact p3.elim
end
end T

-- text T11
set_option Elab.async false
set_option linter.all false
set_option maxRecDepth 100000
set_option maxHeartbeats 4000000
namespace T
open PySem L2
section
variable {X : Cx} {G : Tab} {W : Wt} {σ : L2.St} {H HF HF' : Hp} {γ : Gam} {E : Ends}
/-! a def's promise: what it does with its arguments -/
def okArg : Sl → Bool
  | .fz _ => true | .io _ => true | _ => false
def spT (G : Tab) (n : Nat) (F : Gam → Out R) : Sp := fun vs H Q E => vs.length = n ∧ ∃ HF as, Ok G (vs.map some) H HF as ∧ as.all okArg = true ∧ post (rE G) G (fun cls d _ H' => E cls d H') (vs.map some) as H HF Q (F as)
/-- the in-and-out arguments as they stand at the end -/
def ioOut : Gam → Gam → Gam
  | [], _ => []
  | s :: as, t :: γ => (match s with
    | .io _ => t
    | _ => s) :: ioOut as γ
  | s :: as, [] => s :: as
/-- a body as a function of the arguments; m: the other slots -/
def fnB (m : Nat) (b : Gam → OutS) : Gam → Out R := fun as => match b (as ++ List.replicate m .un) with
  | .rt r γ => .ok r (ioOut as γ)
  | .nx γ => .ok (.fz .non) (ioOut as γ)
  | .er x γ => .er x (ioOut as γ)
  | _ => .bad
theorem ioOut_get : ∀ {as γ : Gam} {i : Nat}, as.length ≤ γ.length → (ioOut as γ)[i]? = match as[i]? with
    | some (.io _) => γ[i]?
    | o => o
  | [], γ, i, _ => by simp [ioOut]
  | s :: as, [], i, h => by simp at h
  | s :: as, t :: γ, 0, _ => by
    unfold ioOut
    cases s <;> rfl
  | s :: as, t :: γ, i + 1, h => by
    unfold ioOut
    have := ioOut_get (as := as) (γ := γ) (i := i) (by simpa using h)
    simpa using this
theorem ioOut_len : ∀ {as γ : Gam}, (ioOut as γ).length = as.length
  | [], _ => rfl
  | s :: as, [] => rfl
  | s :: as, t :: γ => by
    unfold ioOut
    show (ioOut as γ).length + 1 = as.length + 1
    rw [ioOut_len]
theorem okArg_at {as : Gam} (h : as.all okArg = true) {i : Nat} {s : Sl} (e : as[i]? = some s) : okArg s = true := List.all_eq_true.mp h s (List.mem_of_getElem? e)
theorem okArg_owns {s : Sl} (h : okArg s = true) (w : s.owns = true) : s.isIo = true := by
  cases s with
  | fz d => cases w
  | io d => rfl
  | un => cases h
  | own d => cases h
theorem map_some_get {vs : List V} {i : Nat} {v : V} : (vs.map some)[i]? = some (some v) ↔ vs[i]? = some v := by
  rw [List.getElem?_map]
  cases vs[i]? <;> simp
/-- the frame at the entry -/
theorem entry_ok {vs : List V} {as : Gam} {m : Nat} (k : Ok G (vs.map some) H HF as) : Ok G (vs.map some ++ List.replicate m none) H HF (as ++ List.replicate m .un) := by
  have hl : vs.length = as.length := by simpa using k.len
  have ow : ∀ {i a}, OwnAt (vs.map some ++ List.replicate m none) (as ++ List.replicate m .un) i a → OwnAt (vs.map some) as i a := fun {i a} h => by
    obtain ⟨⟨s, e, w⟩, q⟩ := h
    by_cases hi : i < as.length
    · rw [List.getElem?_append_left hi] at e
      rw [List.getElem?_append_left (by simpa [hl] using hi)] at q
      exact ⟨⟨s, e, w⟩, q⟩
    · rw [List.getElem?_append_right (by omega), List.getElem?_replicate] at e
      split at e
      · cases e; cases w
      · cases e
  refine ⟨k.sub, by simp [hl], fun i s e => ?_, fun i j a h1 h2 => k.dis i j a (ow h1) (ow h2)⟩
  by_cases hi : i < as.length
  · rw [List.getElem?_append_left hi] at e
    rw [List.getElem?_append_left (by simpa [hl] using hi)]
    exact k.sl i s e
  · rw [List.getElem?_append_right (by omega), List.getElem?_replicate] at e
    split at e
    · cases e; trivial
    · cases e
theorem entry_own {vs : List V} {as : Gam} {m i : Nat} {a : Addr} (hl : vs.length = as.length) : OwnAt (vs.map some ++ List.replicate m none) (as ++ List.replicate m .un) i a ↔ OwnAt (vs.map some) as i a := by
  constructor
  · rintro ⟨⟨s, e, w⟩, q⟩
    by_cases hi : i < as.length
    · rw [List.getElem?_append_left hi] at e
      rw [List.getElem?_append_left (by simpa [hl] using hi)] at q
      exact ⟨⟨s, e, w⟩, q⟩
    · rw [List.getElem?_append_right (by omega), List.getElem?_replicate] at e
      split at e
      · cases e; cases w
      · cases e
  · rintro ⟨⟨s, e, w⟩, q⟩
    have hi : i < as.length := (List.getElem?_eq_some_iff.mp e).1
    exact ⟨⟨s, by rw [List.getElem?_append_left hi]; exact e, w⟩, by rw [List.getElem?_append_left (by simpa [hl] using hi)]; exact q⟩
/-- the arguments behind the body -/
theorem exit_ok {vs : List V} {as γ' : Gam} {m : Nat} {σ' : L2.St} {H' HF' : Hp} (k : Ok G (vs.map some) H HF as) (oa : as.all okArg = true) (k' : Ok G σ' H' HF' γ') (s' : Stp (vs.map some ++ List.replicate m none) (as ++ List.replicate m .un) H HF σ' γ' H' HF') :
    Ok G (vs.map some) H' HF' (ioOut as γ') ∧ Stp (vs.map some) as H HF (vs.map some) (ioOut as γ') H' HF' ∧ ∀ j a, OwnAt (vs.map some) (ioOut as γ') j a → OwnAt σ' γ' j a := by
  have hl : vs.length = as.length := by simpa using k.len
  have io : ∀ (i : Nat) d, as[i]? = some (.io d) → (∃ s, γ'[i]? = some s ∧ s.isIo = true) ∧ σ'[i]? = (vs.map some)[i]? := fun i d e => by
    have hi : i < as.length := (List.getElem?_eq_some_iff.mp e).1
    obtain ⟨q1, q2⟩ := s'.io i (.io d) (by rw [List.getElem?_append_left hi]; exact e) rfl
    exact ⟨q1, by rw [q2, List.getElem?_append_left (by simpa [hl] using hi)]⟩
  -- the ends' lengths: an io slot lies in both
  have get : ∀ {i : Nat} {s : Sl}, (ioOut as γ')[i]? = some s → (∃ d, as[i]? = some (.io d) ∧ γ'[i]? = some s ∧ s.isIo = true) ∨ (∃ d, s = .fz d ∧ as[i]? = some (.fz d)) := fun {i s} e => by
    have hg : ∀ (as γ : Gam) (i : Nat) (s : Sl), (ioOut as γ)[i]? = some s → (∃ d, as[i]? = some (.io d) ∧ (γ[i]? = some s ∨ γ[i]? = none)) ∨ (as[i]? = some s ∧ ∀ d, s ≠ .io d) := by
      intro as
      induction as with
      | nil => intro γ i s e; simp [ioOut] at e
      | cons s0 as ih =>
        intro γ i s e
        cases γ with
        | nil =>
          unfold ioOut at e
          cases s0 <;> cases i <;> simp_all
          all_goals (cases s <;> simp_all)
        | cons t γ =>
          unfold ioOut at e
          cases i with
          | zero =>
            cases s0 <;> simp_all
            all_goals (subst e; simp)
          | succ i => simpa using ih γ i s (by simpa using e)
    rcases hg as γ' i s e with ⟨d, e1, e2⟩ | ⟨e1, n⟩
    · obtain ⟨⟨t, et, wt⟩, _⟩ := io i d e1
      rcases e2 with e2 | e2
      · rw [e2] at et; cases et; exact .inl ⟨d, e1, e2, wt⟩
      · rw [e2] at et; cases et
    · have := okArg_at oa e1
      cases s with
      | fz d => exact .inr ⟨d, rfl, e1⟩
      | io d => exact absurd rfl (n d)
      | un => cases this
      | own d => cases this
  have ow : ∀ {j a}, OwnAt (vs.map some) (ioOut as γ') j a → OwnAt σ' γ' j a ∧ OwnAt (vs.map some) as j a := fun {j a} h => by
    obtain ⟨⟨s, e, w⟩, q⟩ := h
    rcases get e with ⟨d, e1, e2, w2⟩ | ⟨d, rfl, _⟩
    · exact ⟨⟨⟨s, e2, w⟩, by rw [(io j d e1).2]; exact q⟩, ⟨⟨_, e1, rfl⟩, q⟩⟩
    · cases w
  refine ⟨⟨k'.sub, by rw [ioOut_len]; exact k.len, fun i s e => ?_, fun i j a h1 h2 => k'.dis i j a (ow h1).1 (ow h2).1⟩, ⟨s'.mono, fun b nb nw => s'.frame b nb fun i q => nw i ((entry_own hl).mp q), fun j b q => .inl ⟨j, (ow q).2⟩, fun i s e w => ?_⟩, fun j a q => (ow q).1⟩
  · rcases get e with ⟨d, e1, e2, w2⟩ | ⟨d, rfl, e1⟩
    · have := k'.sl i s e2
      rw [(io i d e1).2] at this
      exact this
    · obtain ⟨v, q, r⟩ := k.sl i _ e1
      exact ⟨v, q, Rep.mono s'.mono _ _ r⟩
  · cases s with
    | io d =>
      obtain ⟨⟨t, et, wt⟩, _⟩ := io i d e
      refine ⟨⟨t, ?_, wt⟩, rfl⟩
      have hg : ∀ (as γ : Gam) (i : Nat) (d : D) (t : Sl), as[i]? = some (.io d) → γ[i]? = some t → (ioOut as γ)[i]? = some t := by
        intro as
        induction as with
        | nil => intro γ i d t e; simp at e
        | cons s0 as ih =>
          intro γ i d t e e2
          cases γ with
          | nil => simp at e2
          | cons u γ =>
            unfold ioOut
            cases i with
            | zero => simp at e e2; subst e; subst e2; rfl
            | succ i => simpa using ih γ i d t (by simpa using e) (by simpa using e2)
      exact hg as γ' i d t e et
    | _ => cases w
/-- THE RULE: a def by its body -/
theorem fn_reads {m : Nat} {b : Gam → OutS} {n : Nat} {N : List Str} (hN : N.length = n + m) (vs : List V) (Q : VK) (E' : XK) (h : spT G n (fnB m b) vs H Q E') :
    tS G (fun cls d _ H' => E' cls d H') b { nx := fun _ H' => Q .non H', rt := Q } (L2.start N vs) H := by
  obtain ⟨hn, HF, as, k, oa, p⟩ := h
  have es : L2.start N vs = vs.map some ++ List.replicate m none := by
    unfold L2.start
    rw [hN, hn, Nat.add_sub_cancel_left]
  rw [es]
  have hl : vs.length = as.length := by simpa using k.len
  refine ⟨HF, as ++ List.replicate m .un, entry_ok k, ?_⟩
  unfold fnB at p
  cases e : b (as ++ List.replicate m .un) with
  | bad => rw [e] at p; exact p.elim
  | bk γ => rw [e] at p; exact p.elim
  | ct γ => rw [e] at p; exact p.elim
  | nx γ =>
    rw [e] at p
    intro σ' H' HF' k' s'
    obtain ⟨a1, a2, _⟩ := exit_ok k oa k' s'
    exact p .non H' HF' a1 a2 (flat_rep (G := G) (HF := HF') (d := .non) (v := .non) rfl)
  | rt r γ =>
    rw [e] at p
    intro σ' v H' HF' k' s' rr
    obtain ⟨a1, a2, a3⟩ := exit_ok k oa k' s'
    refine p v H' HF' a1 a2 ?_
    cases r with
    | fz d => exact rr
    | own d =>
      obtain ⟨a, ea, o, no, w⟩ := rr
      exact ⟨a, ea, o, fun j q => no j (a3 j a q), w.elim .inl fun ⟨i, q⟩ => .inr ⟨i, (entry_own hl).mp q⟩⟩
  | er x γ =>
    rw [e] at p
    intro c d σ' H' HF' k' s' rr
    obtain ⟨a1, a2, _⟩ := exit_ok k oa k' s'
    exact p c d H' HF' a1 a2 rr
end
end T

-- text T12
set_option Elab.async false
set_option linter.all false
set_option maxRecDepth 100000
set_option maxHeartbeats 4000000
namespace T
open PySem L2
section
variable {X : Cx} {G : Tab} {W : Wt} {σ : L2.St} {H HF HF' : Hp} {γ : Gam} {E : Ends}
def mkSl : Option Sl → Option Sl
  | some (.own d) => some (.io d)
  | some (.io d) => some (.io d)
  | some (.fz d) => some (.fz d)
  | _ => none
theorem mkSl_some {o : Option Sl} {s : Sl} (h : mkSl o = some s) : (∃ d, o = some (.own d) ∧ s = .io d) ∨ (∃ d, o = some (.io d) ∧ s = .io d) ∨ ∃ d, o = some (.fz d) ∧ s = .fz d := by
  unfold mkSl at h
  split at h
  · cases h; exact .inl ⟨_, rfl, rfl⟩
  · cases h; exact .inr (.inl ⟨_, rfl, rfl⟩)
  · cases h; exact .inr (.inr ⟨_, rfl, rfl⟩)
  · cases h
def mkArg (γ : Gam) : Ar → Option Sl
  | .d d => some (.fz d)
  | .sl i => mkSl γ[i]?
def mkArgs (γ : Gam) : List Ar → Option Gam
  | [] => some []
  | a :: as => match mkArg γ a with
    | some s => (match mkArgs γ as with
      | some ss => some (s :: ss)
      | none => none)
    | none => none
def slIn (i : Nat) : List Ar → Bool
  | [] => false
  | .sl j :: as => (i == j) || slIn i as
  | .d _ :: as => slIn i as
def disA : List Ar → Bool
  | [] => true
  | .sl i :: as => !slIn i as && disA as
  | .d _ :: as => disA as
def reSl (o : Option Sl) (s : Sl) : Option Sl := match o with
  | some (.own _) => (match s with
    | .io d => some (.own d)
    | _ => o)
  | some (.io _) => (match s with
    | .io d => some (.io d)
    | _ => o)
  | _ => o
def putArgs : Gam → List Ar → Gam → Gam
  | γ, .sl i :: ars, s :: as => putArgs (match reSl γ[i]? s with
    | some t => γ.set i t
    | none => γ) ars as
  | γ, .d _ :: ars, _ :: as => putArgs γ ars as
  | γ, _, _ => γ
theorem mkArgs_at : ∀ {ars : List Ar} {as : Gam}, mkArgs γ ars = some as → as.length = ars.length ∧ ∀ (k : Nat) a, ars[k]? = some a → ∃ s, as[k]? = some s ∧ mkArg γ a = some s
  | [], as, h => by cases h; exact ⟨rfl, fun k a e => by simp at e⟩
  | a :: ars, as, h => by
    unfold mkArgs at h
    cases q : mkArg γ a with
    | none => rw [q] at h; cases h
    | some s =>
      rw [q] at h
      simp only at h
      cases q2 : mkArgs γ ars with
      | none => rw [q2] at h; cases h
      | some ss =>
        rw [q2] at h
        cases h
        obtain ⟨l, f⟩ := mkArgs_at q2
        refine ⟨by simp [l], fun k b e => ?_⟩
        cases k with
        | zero => simp at e; subst e; exact ⟨s, rfl, q⟩
        | succ k => simpa using f k b (by simpa using e)
theorem slIn_at {i : Nat} : ∀ {ars : List Ar} {k : Nat}, ars[k]? = some (.sl i) → slIn i ars = true
  | [], k, e => by simp at e
  | a :: ars, 0, e => by simp at e; subst e; simp [slIn]
  | a :: ars, k + 1, e => by
    have := slIn_at (ars := ars) (k := k) (by simpa using e)
    cases a <;> simp [slIn, this]
theorem disA_at : ∀ {ars : List Ar} {k l i : Nat}, disA ars = true → ars[k]? = some (.sl i) → ars[l]? = some (.sl i) → k = l
  | [], k, l, i, _, e, _ => by simp at e
  | a :: ars, k, l, i, h, e1, e2 => by
    have hd : disA ars = true := by
      cases a with
      | d d => exact h
      | sl j => exact (Bool.and_eq_true_iff.mp h).2
    cases k with
    | zero =>
      cases l with
      | zero => rfl
      | succ l =>
        simp at e1
        subst e1
        have h1 := (Bool.and_eq_true_iff.mp h).1
        rw [slIn_at (ars := ars) (k := l) (by simpa using e2)] at h1
        cases h1
    | succ k =>
      cases l with
      | zero =>
        simp at e2
        subst e2
        have h1 := (Bool.and_eq_true_iff.mp h).1
        rw [slIn_at (ars := ars) (k := k) (by simpa using e1)] at h1
        cases h1
      | succ l => exact congrArg (· + 1) (disA_at (i := i) hd (by simpa using e1) (by simpa using e2))
theorem putArgs_len : ∀ {ars : List Ar} {as γ : Gam}, (putArgs γ ars as).length = γ.length
  | [], as, γ => by cases as <;> rfl
  | .d _ :: ars, [], γ => rfl
  | .sl _ :: ars, [], γ => rfl
  | .d _ :: ars, s :: as, γ => by unfold putArgs; exact putArgs_len
  | .sl i :: ars, s :: as, γ => by
    unfold putArgs
    rw [putArgs_len]
    split <;> simp
theorem put_out {i : Nat} : ∀ {ars : List Ar} {as γ : Gam}, slIn i ars = false → (putArgs γ ars as)[i]? = γ[i]?
  | [], as, γ, _ => by cases as <;> rfl
  | .d _ :: ars, [], γ, _ => rfl
  | .sl _ :: ars, [], γ, _ => rfl
  | .d _ :: ars, s :: as, γ, h => by unfold putArgs; exact put_out (by simpa [slIn] using h)
  | .sl j :: ars, s :: as, γ, h => by
    have h1 : i ≠ j ∧ slIn i ars = false := by simpa [slIn] using h
    unfold putArgs
    rw [put_out h1.2]
    split
    · rw [List.getElem?_set_ne (Ne.symm h1.1)]
    · rfl
theorem put_in {i : Nat} : ∀ {ars : List Ar} {as γ : Gam} {k : Nat} {s : Sl}, disA ars = true → ars[k]? = some (.sl i) → as[k]? = some s → (putArgs γ ars as)[i]? = reSl γ[i]? s
  | [], as, γ, k, s, _, e, _ => by simp at e
  | a :: ars, [], γ, k, s, _, _, e => by simp at e
  | a :: ars, s0 :: as, γ, 0, s, h, e, e2 => by
    simp at e e2
    subst e; subst e2
    have h1 := (Bool.and_eq_true_iff.mp h).1
    have h2 : slIn i ars = false := by simpa using h1
    unfold putArgs
    rw [put_out h2]
    cases q : reSl γ[i]? s0 with
    | none =>
      have : γ[i]? = none := by
        cases z : γ[i]? with
        | none => rfl
        | some t =>
          rw [z] at q
          exfalso
          unfold reSl at q
          cases t <;> cases s0 <;> simp at q
      exact this
    | some t =>
      have hi : i < γ.length := by
        cases z : γ[i]? with
        | none => rw [z] at q; simp [reSl] at q
        | some t => exact (List.getElem?_eq_some_iff.mp z).1
      exact List.getElem?_set_self hi
  | a :: ars, s0 :: as, γ, k + 1, s, h, e, e2 => by
    have hd : disA ars = true := by
      cases a with
      | d d => exact h
      | sl j => exact (Bool.and_eq_true_iff.mp h).2
    have e' : ars[k]? = some (.sl i) := by simpa using e
    have e2' : as[k]? = some s := by simpa using e2
    cases a with
    | d d => unfold putArgs; exact put_in hd e' e2'
    | sl j =>
      have hj : i ≠ j := by
        rintro rfl
        have h1 := (Bool.and_eq_true_iff.mp h).1
        rw [slIn_at e'] at h1
        cases h1
      unfold putArgs
      rw [put_in hd e' e2']
      congr 1
      split
      · rw [List.getElem?_set_ne (Ne.symm hj)]
      · rfl
theorem arsOk_at : ∀ {ars : List Ar} {vs : List V} {k : Nat} {a : Ar}, ArsOk G σ HF ars vs → ars[k]? = some a → ∃ v, vs[k]? = some v ∧ ArOk G σ HF a v
  | _, _, k, a, .nil, e => by simp at e
  | _, _, 0, a, .cons r t, e => by simp at e; subst e; exact ⟨_, rfl, r⟩
  | _, _, k + 1, a, .cons r t, e => by
    obtain ⟨v, e1, r1⟩ := arsOk_at (k := k) t (by simpa using e)
    exact ⟨v, by simpa using e1, r1⟩
theorem arsOk_len : ∀ {ars : List Ar} {vs : List V}, ArsOk G σ HF ars vs → vs.length = ars.length
  | _, _, .nil => rfl
  | _, _, .cons _ t => by simp [arsOk_len t]
/-- the arguments as a callee sees them -/
theorem args_ok {ars : List Ar} {vs : List V} {as : Gam} (k : Ok G σ H HF γ) (r : ArsOk G σ HF ars vs) (m : mkArgs γ ars = some as) (dis : disA ars = true) :
    Ok G (vs.map some) H HF as ∧ as.all okArg = true ∧ ∀ l a, OwnAt (vs.map some) as l a → ∃ i, ars[l]? = some (.sl i) ∧ OwnAt σ γ i a := by
  obtain ⟨ml, mg⟩ := mkArgs_at m
  have vl := arsOk_len r
  have at_ : ∀ (l : Nat) s, as[l]? = some s → ∃ a v, ars[l]? = some a ∧ vs[l]? = some v ∧ ArOk G σ HF a v ∧ mkArg γ a = some s := fun l s e => by
    have hl : l < ars.length := by rw [← ml]; exact (List.getElem?_eq_some_iff.mp e).1
    have ea : ars[l]? = some ars[l] := List.getElem?_eq_getElem hl
    obtain ⟨s', e1, e2⟩ := mg l _ ea
    rw [e] at e1; cases e1
    obtain ⟨v, e3, e4⟩ := arsOk_at r ea
    exact ⟨_, v, ea, e3, e4, e2⟩
  have ow : ∀ l a, OwnAt (vs.map some) as l a → ∃ i, ars[l]? = some (.sl i) ∧ OwnAt σ γ i a := fun l a h => by
    obtain ⟨⟨s, e, w⟩, q⟩ := h
    obtain ⟨b, v, e1, e2, e3, e4⟩ := at_ l s e
    cases b with
    | d d => cases e4; cases w
    | sl i =>
      refine ⟨i, e1, ?_⟩
      have ev : v = .ref a := by
        have := map_some_get.mp q
        rw [e2] at this
        exact Option.some.inj this
      subst ev
      have e3' : σ[i]? = some (some (.ref a)) := e3
      rcases mkSl_some (show mkSl γ[i]? = some s from e4) with ⟨d, z, _⟩ | ⟨d, z, _⟩ | ⟨d, z, rfl⟩
      · exact ⟨⟨_, z, rfl⟩, e3'⟩
      · exact ⟨⟨_, z, rfl⟩, e3'⟩
      · cases w
  refine ⟨⟨k.sub, by rw [List.length_map, vl, ml], fun l s e => ?_, fun i j a h1 h2 => ?_⟩, List.all_eq_true.mpr fun s hs => ?_, ow⟩
  · obtain ⟨b, v, e1, e2, e3, e4⟩ := at_ l s e
    have ev : (vs.map some)[l]?.join = some v := by rw [map_some_get.mpr e2]; rfl
    rw [ev]
    cases b with
    | d d => cases e4; exact ⟨v, rfl, e3⟩
    | sl i =>
      have e3' : σ[i]? = some (some v) := e3
      rcases mkSl_some (show mkSl γ[i]? = some s from e4) with ⟨d, z, rfl⟩ | ⟨d, z, rfl⟩ | ⟨d, z, rfl⟩
      · have := k.sl i _ z
        rw [e3'] at this
        exact this
      · have := k.sl i _ z
        rw [e3'] at this
        exact this
      · have := k.sl i _ z
        rw [e3'] at this
        exact this
  · obtain ⟨x, a1, o1⟩ := ow i a h1
    obtain ⟨y, a2, o2⟩ := ow j a h2
    have := k.dis x y a o1 o2
    subst this
    exact disA_at dis a1 a2
  · obtain ⟨l, e⟩ := List.getElem?_of_mem hs
    obtain ⟨b, v, e1, e2, e3, e4⟩ := at_ l s e
    cases b with
    | d d => cases e4; rfl
    | sl i => rcases mkSl_some (show mkSl γ[i]? = some s from e4) with ⟨d, z, rfl⟩ | ⟨d, z, rfl⟩ | ⟨d, z, rfl⟩ <;> rfl
/-- the caller's frame behind the call -/
theorem args_back {ars : List Ar} {vs : List V} {as as' : Gam} {H2 HF2 : Hp} (k : Ok G σ H HF γ) (r : ArsOk G σ HF ars vs) (m : mkArgs γ ars = some as) (dis : disA ars = true) (k2 : Ok G (vs.map some) H2 HF2 as') (s2 : Stp (vs.map some) as H HF (vs.map some) as' H2 HF2) :
    Ok G σ H2 HF2 (putArgs γ ars as') ∧ Stp σ γ H HF σ (putArgs γ ars as') H2 HF2 ∧ (∀ j a, OwnAt σ (putArgs γ ars as') j a → OwnAt σ γ j a) ∧ ∀ j a, OwnAt σ (putArgs γ ars as') j a → (∃ l, OwnAt (vs.map some) as' l a) ∨ ∀ l, ¬ OwnAt (vs.map some) as l a := by
  obtain ⟨k1, oa, ow⟩ := args_ok k r m dis
  obtain ⟨ml, mg⟩ := mkArgs_at m
  have vl := arsOk_len r
  -- what stands at a slot
  have at_ : ∀ (j : Nat) t, (putArgs γ ars as')[j]? = some t → (γ[j]? = some t ∧ (t.owns = true → ∀ l : Nat, ars[l]? ≠ some (Ar.sl j))) ∨ (∃ (l : Nat) (d : D) (v : V), ars[l]? = some (Ar.sl j) ∧ as'[l]? = some (Sl.io d) ∧ vs[l]? = some v ∧ σ[j]? = some (some v) ∧ ((t = .own d ∧ ∃ d0, γ[j]? = some (.own d0)) ∨ (t = .io d ∧ ∃ d0, γ[j]? = some (.io d0)))) := fun j t e => by
    by_cases hj : slIn j ars = true
    · -- it is passed
      have ex : ∀ (ars : List Ar), slIn j ars = true → ∃ l : Nat, ars[l]? = some (Ar.sl j) := by
        intro ars
        induction ars with
        | nil => intro h; cases h
        | cons a ars ih =>
          intro h
          cases a with
          | d d => obtain ⟨l, q⟩ := ih h; exact ⟨l + 1, by simpa using q⟩
          | sl i =>
            rcases Bool.or_eq_true_iff.mp h with h | h
            · have : j = i := by simpa using h
              subst this
              exact ⟨0, rfl⟩
            · obtain ⟨l, q⟩ := ih h; exact ⟨l + 1, by simpa using q⟩
      obtain ⟨l, el⟩ := ex ars hj
      obtain ⟨s, es, ms⟩ := mg l _ el
      obtain ⟨v, ev, rv⟩ := arsOk_at r el
      have rv' : σ[j]? = some (some v) := rv
      have hl2 : l < as'.length := by
        have := k2.len
        rw [List.length_map, vl] at this
        rw [← this]
        exact (List.getElem?_eq_some_iff.mp el).1
      have es' : as'[l]? = some as'[l] := List.getElem?_eq_getElem hl2
      rw [put_in dis el es'] at e
      rcases mkSl_some (show mkSl γ[j]? = some s from ms) with ⟨d0, z, rfl⟩ | ⟨d0, z, rfl⟩ | ⟨d0, z, rfl⟩
      · obtain ⟨⟨t', et', wt'⟩, _⟩ := s2.io l _ es rfl
        rw [es'] at et'
        cases et'
        rw [z] at e
        cases q : as'[l] with
        | io d =>
          rw [q] at e es'
          simp only [reSl] at e
          cases e
          exact .inr ⟨l, d, v, el, es', ev, rv', .inl ⟨rfl, d0, z⟩⟩
        | _ => rw [q] at wt'; cases wt'
      · obtain ⟨⟨t', et', wt'⟩, _⟩ := s2.io l _ es rfl
        rw [es'] at et'
        cases et'
        rw [z] at e
        cases q : as'[l] with
        | io d =>
          rw [q] at e es'
          simp only [reSl] at e
          cases e
          exact .inr ⟨l, d, v, el, es', ev, rv', .inr ⟨rfl, d0, z⟩⟩
        | _ => rw [q] at wt'; cases wt'
      · rw [z] at e
        simp only [reSl] at e
        cases e
        exact .inl ⟨z, fun w => by cases w⟩
    · have hj' : slIn j ars = false := by simpa using hj
      rw [put_out hj'] at e
      exact .inl ⟨e, fun _ l el => by rw [slIn_at el] at hj'; cases hj'⟩
  have own : ∀ j a, OwnAt σ (putArgs γ ars as') j a → OwnAt σ γ j a := fun j a h => by
    obtain ⟨⟨t, e, w⟩, q⟩ := h
    rcases at_ j t e with ⟨e1, _⟩ | ⟨l, d, v, _, _, _, _, ⟨rfl, d0, z⟩ | ⟨rfl, d0, z⟩⟩
    · exact ⟨⟨t, e1, w⟩, q⟩
    · exact ⟨⟨_, z, rfl⟩, q⟩
    · exact ⟨⟨_, z, rfl⟩, q⟩
  refine ⟨⟨k2.sub, by rw [putArgs_len]; exact k.len, fun j t e => ?_, fun i j a h1 h2 => k.dis i j a (own i a h1) (own j a h2)⟩, ⟨s2.mono, fun b nb nw => s2.frame b nb fun l q => by
    obtain ⟨i, _, o⟩ := ow l b q
    exact nw i o, fun j b q => .inl ⟨j, own j b q⟩, fun i s e w => ?_⟩, own, fun j a h => ?_⟩
  · rcases at_ j t e with ⟨e1, n1⟩ | ⟨l, d, v, el, el', ev, rv, hh⟩
    · refine (k.sl j t e1).keep s2.mono fun a w q => ?_
      have o1 : OwnAt σ γ j a := ownAt_of e1 w q
      obtain ⟨u, eu, nu⟩ := k.own o1
      have nw : ∀ l, ¬ OwnAt (vs.map some) as l a := fun l z => by
        obtain ⟨i, ei, oi⟩ := ow l a z
        have := k.dis i j a oi o1
        subst this
        exact n1 w l ei
      obtain ⟨f1, f2⟩ := s2.frame a (by rw [eu]; simp) nw
      exact ⟨f1, f2.trans nu⟩
    · have z := k2.sl l _ el'
      rw [map_some_get.mpr ev] at z
      obtain ⟨a, ea, o⟩ := z
      have ea' : v = .ref a := by simpa using ea
      subst ea'
      rcases hh with ⟨rfl, _⟩ | ⟨rfl, _⟩
      · exact ⟨a, by rw [rv]; rfl, o⟩
      · exact ⟨a, by rw [rv]; rfl, o⟩
  · have hi : i < (putArgs γ ars as').length := by rw [putArgs_len]; exact (List.getElem?_eq_some_iff.mp e).1
    have ee : (putArgs γ ars as')[i]? = some (putArgs γ ars as')[i] := List.getElem?_eq_getElem hi
    refine ⟨⟨_, ee, ?_⟩, rfl⟩
    rcases at_ i _ ee with ⟨e1, _⟩ | ⟨l, d, v, _, _, _, _, ⟨_, d0, z⟩ | ⟨q, d0, z⟩⟩
    · rw [e] at e1; cases e1; exact w
    · rw [e] at z; cases z; cases w
    · rw [q]; rfl
  · obtain ⟨⟨t, e, w⟩, q⟩ := h
    rcases at_ j t e with ⟨e1, n1⟩ | ⟨l, d, v, el, el', ev, rv, hh⟩
    · refine .inr fun l z => ?_
      obtain ⟨i, ei, oi⟩ := ow l a z
      have := k.dis i j a oi ⟨⟨t, e1, w⟩, q⟩
      subst this
      exact n1 w l ei
    · refine .inl ⟨l, ⟨_, el', rfl⟩, ?_⟩
      rw [rv] at q
      injection q with q
      injection q with q
      rw [map_some_get.mpr ev, q]
/-- a call of a def of n parameters; what raises is not told -/
def eCallN (n : Nat) (F : Gam → Out R) (ms : Gam → Out (List Ar)) : Gam → Out R := fun γ => (ms γ).bind fun ars γ1 => match Nat.beq ars.length n && disA ars with
  | true => (match mkArgs γ1 ars with
    | some as => (match F as with
      | .ok r as' => .ok r (putArgs γ1 ars as')
      | _ => .bad)
    | none => .bad)
  | false => .bad
theorem te_callN {n : Nat} {F : Gam → Out R} {ms : Gam → Out (List Ar)} {Q : VK} (h : tE G W (eCallN n F ms) σ H Q) : tCall (spT G n F) [] L2.E0 (tA G W ms) σ H Q := by
  obtain ⟨HF, γ, k, p⟩ := h
  refine ⟨HF, γ, k, post_bind (r1 := rA G) p fun ars γ1 vs H1 HF1 k1 s1 r1 p1 => ?_⟩
  have p1 := post_from later_E s1 p1
  rw [List.append_nil]
  cases hn : Nat.beq ars.length n && disA ars with
  | false => rw [hn] at p1; exact p1.elim
  | true =>
  rw [hn] at p1
  obtain ⟨hb, hd⟩ := Bool.and_eq_true_iff.mp hn
  simp only at p1
  cases hm : mkArgs γ1 ars with
  | none => rw [hm] at p1; exact p1.elim
  | some as =>
  rw [hm] at p1
  simp only at p1
  obtain ⟨ka, oa, ow⟩ := args_ok k1 r1 hm hd
  refine ⟨by rw [arsOk_len r1]; exact Nat.eq_of_beq_eq_true hb, HF1, as, ka, oa, ?_⟩
  cases ef : F as with
  | bad => rw [ef] at p1; exact p1.elim
  | er x as' => rw [ef] at p1; exact p1.elim
  | ok r as' =>
    rw [ef] at p1
    intro v H2 HF2 k2 s2 rr
    obtain ⟨b1, b2, b3, b4⟩ := args_back k1 r1 hm hd k2 s2
    refine p1 v H2 HF2 b1 b2 ?_
    cases r with
    | fz d => exact rr
    | own d =>
      obtain ⟨a, ea, o, no, w⟩ := rr
      refine ⟨a, ea, o, fun j q => ?_, ?_⟩
      · rcases b4 j a q with ⟨l, z⟩ | z
        · exact no l z
        · rcases w with w | ⟨l, w⟩
          · obtain ⟨u, eu, _⟩ := k1.own (b3 j a q)
            rw [w] at eu; cases eu
          · exact z l w
      · rcases w with w | ⟨l, w⟩
        · exact .inl w
        · obtain ⟨i, _, oi⟩ := ow l a w
          exact .inr ⟨i, oi⟩
theorem tpe_callN {k n : Nat} {f : Addr} {fd : FuncData} {ps : List Str} {F : Gam → Out R} {x : Str} {p pos : Pos} {e : Expr} {es : List Expr} {ms : Gam → Out (List Ar)} (FO : FnOk X.prog X.w X.K X.mg X.base CX0 k f fd ps (spT G n F)) (hr : Room k X.A) (hg : Gl X x) (hm : X.mg x = some (.ref f)) (hk : PySem.W.keepIn X.K (.ref f) = true) (hb : Binds X.K fd ps [])
    (ha : PA X (e :: es) (tA G W ms)) (hdb : (x == ("__debug__" : Str)) = false) (he : starEach (e :: es) X.env = (false, eval e X.env) :: starEach es X.env) (hpl : (backTo pos (starEach es X.env)).any (·.1) = false) : PE X (.Call (.Name x p) (e :: es) [] pos) (tE G W (eCallN n F ms)) :=
  ⟨fun pins s σ H Q I h => (pe_call FO hr hg hm hk hb .nil L2.pass0 ha hdb he hpl).run pins s σ H Q I (te_callN h)⟩
end
end T

-- text T13
set_option Elab.async false
set_option linter.all false
set_option maxRecDepth 100000
set_option maxHeartbeats 4000000
namespace T
open PySem L2
section
variable {X : Cx} {G : Tab} {W : Wt} {σ : L2.St} {H HF HF' : Hp} {γ : Gam} {E : Ends}
/-! not, and, or; conditional expressions; chains -/
def bNot (a : Gam → Out Bool) : Gam → Out Bool := fun γ => (a γ).bind fun v γ1 => .ok (!v) γ1
theorem tt_not {a : Gam → Out Bool} {Q : Bool → Hp → Prop} (h : tT G W (bNot a) σ H Q) : tNot (tT G W a) σ H Q := by
  obtain ⟨HF, γ, k, p⟩ := h
  refine ⟨HF, γ, k, post_bind (r1 := rT) p fun v γ1 v' H1 HF1 k1 s1 e p1 => ?_⟩
  cases e
  exact p1 (!v) H1 HF1 k1 s1 rfl
theorem tpt_not {a : Expr} {pos : Pos} {m : Gam → Out Bool} (ha : PT X a (tT G W m)) : PT X (.UnaryOp .Not a pos) (tT G W (bNot m)) := ⟨fun pins s σ H Q I h => (pt_not ha).run pins s σ H Q I (tt_not h)⟩
def bAnd (a b : Gam → Out Bool) : Gam → Out Bool := fun γ => (a γ).bind fun v γ1 => match v with
  | true => b γ1
  | false => .ok false γ1
def bOr (a b : Gam → Out Bool) : Gam → Out Bool := fun γ => (a γ).bind fun v γ1 => match v with
  | true => .ok true γ1
  | false => b γ1
theorem tt_and {a b : Gam → Out Bool} {Q : Bool → Hp → Prop} (h : tT G W (bAnd a b) σ H Q) : tAnd (tT G W a) (tT G W b) σ H Q := by
  obtain ⟨HF, γ, k, p⟩ := h
  refine ⟨HF, γ, k, post_bind (r1 := rT) p fun v γ1 v' H1 HF1 k1 s1 e p1 => ?_⟩
  cases e
  cases v with
  | true => rw [if_pos rfl]; exact ⟨HF1, γ1, k1, post_from later_T s1 p1⟩
  | false => rw [if_neg (by simp)]; exact p1 false H1 HF1 k1 s1 rfl
theorem tt_or {a b : Gam → Out Bool} {Q : Bool → Hp → Prop} (h : tT G W (bOr a b) σ H Q) : tOr (tT G W a) (tT G W b) σ H Q := by
  obtain ⟨HF, γ, k, p⟩ := h
  refine ⟨HF, γ, k, post_bind (r1 := rT) p fun v γ1 v' H1 HF1 k1 s1 e p1 => ?_⟩
  cases e
  cases v with
  | true => rw [if_pos rfl]; exact p1 true H1 HF1 k1 s1 rfl
  | false => rw [if_neg (by simp)]; exact ⟨HF1, γ1, k1, post_from later_T s1 p1⟩
theorem tpw_and1 {a : Expr} {pos : Pos} {m : Gam → Out Bool} (ha : PT X a (tT G W m)) : PW X (.BoolOp .And [a] pos) (tT G W m) := pw_and1 ha
theorem tpw_or1 {a : Expr} {pos : Pos} {m : Gam → Out Bool} (ha : PT X a (tT G W m)) : PW X (.BoolOp .Or [a] pos) (tT G W m) := pw_or1 ha
theorem tpw_and {a b : Expr} {rest : List Expr} {pos : Pos} {m n : Gam → Out Bool} (ha : PT X a (tT G W m)) (hb : PW X (.BoolOp .And (b :: rest) pos) (tT G W n)) : PW X (.BoolOp .And (a :: b :: rest) pos) (tT G W (bAnd m n)) := ⟨fun wh pins s σ H Q I h => (pw_and ha hb).run wh pins s σ H Q I (tt_and h)⟩
theorem tpw_or {a b : Expr} {rest : List Expr} {pos : Pos} {m n : Gam → Out Bool} (ha : PT X a (tT G W m)) (hb : PW X (.BoolOp .Or (b :: rest) pos) (tT G W n)) : PW X (.BoolOp .Or (a :: b :: rest) pos) (tT G W (bOr m n)) := ⟨fun wh pins s σ H Q I h => (pw_or ha hb).run wh pins s σ H Q I (tt_or h)⟩
/-- .. as values -/
def ofT (m : Gam → Out Bool) : Gam → Out R := fun γ => (m γ).bind fun v γ1 => .ok (.fz (.bl v)) γ1
theorem toT_ofT (m : Gam → Out Bool) (γ : Gam) : toT (ofT m) γ = m γ := by
  unfold toT ofT
  cases m γ <;> rfl
def eAnd (a b : Gam → Out R) : Gam → Out R := fun γ => (a γ).bind fun r γ1 => match r with
  | .fz (.bl true) => b γ1
  | .fz (.bl false) => .ok (.fz (.bl false)) γ1
  | _ => .bad
def eOr (a b : Gam → Out R) : Gam → Out R := fun γ => (a γ).bind fun r γ1 => match r with
  | .fz (.bl true) => .ok (.fz (.bl true)) γ1
  | .fz (.bl false) => b γ1
  | _ => .bad
def eNot (a : Gam → Out R) : Gam → Out R := fun γ => (a γ).bind fun r γ1 => match r with
  | .fz (.bl v) => .ok (.fz (.bl (!v))) γ1
  | _ => .bad
theorem rep_bl {b : Bool} {v : V} (h : Rep G HF (.bl b) v) : v = .bl b := h
theorem te_and {a b : Gam → Out R} {Q : VK} (h : tE G W (eAnd a b) σ H Q) : tAndV (tE G W a) (tE G W b) σ H Q := by
  obtain ⟨HF, γ, k, p⟩ := h
  refine ⟨HF, γ, k, post_bind (r1 := rE G) p fun r γ1 v H1 HF1 k1 s1 rr p1 => ?_⟩
  split at p1
  · have e : v = .bl true := rr
    exact ⟨true, e, by rw [if_pos rfl]; exact ⟨HF1, γ1, k1, post_from later_E s1 p1⟩⟩
  · have e : v = .bl false := rr
    exact ⟨false, e, by rw [if_neg (by simp)]; exact p1 (.bl false) H1 HF1 k1 s1 (flat_rep (G := G) (HF := HF1) (d := .bl false) (v := .bl false) rfl)⟩
  · exact p1.elim
theorem te_or {a b : Gam → Out R} {Q : VK} (h : tE G W (eOr a b) σ H Q) : tOrV (tE G W a) (tE G W b) σ H Q := by
  obtain ⟨HF, γ, k, p⟩ := h
  refine ⟨HF, γ, k, post_bind (r1 := rE G) p fun r γ1 v H1 HF1 k1 s1 rr p1 => ?_⟩
  split at p1
  · have e : v = .bl true := rr
    exact ⟨true, e, by rw [if_pos rfl]; exact p1 (.bl true) H1 HF1 k1 s1 (flat_rep (G := G) (HF := HF1) (d := .bl true) (v := .bl true) rfl)⟩
  · have e : v = .bl false := rr
    exact ⟨false, e, by rw [if_neg (by simp)]; exact ⟨HF1, γ1, k1, post_from later_E s1 p1⟩⟩
  · exact p1.elim
theorem te_not {a : Gam → Out R} {Q : VK} (h : tE G W (eNot a) σ H Q) : tNotV (tE G W a) σ H Q := by
  obtain ⟨HF, γ, k, p⟩ := h
  refine ⟨HF, γ, k, post_bind (r1 := rE G) p fun r γ1 v H1 HF1 k1 s1 rr p1 => ?_⟩
  split at p1
  · rename_i b
    have e : v = .bl b := rr
    exact ⟨b, e, p1 (.bl (!b)) H1 HF1 k1 s1 (flat_rep (G := G) (HF := HF1) (d := .bl (!b)) (v := .bl (!b)) rfl)⟩
  · exact p1.elim
theorem tpe_one {op : BoolOp} {a : Expr} {pos : Pos} {m : Gam → Out R} (h : PE X a (tE G W m)) : PE X (.BoolOp op [a] pos) (tE G W m) := pe_one h
theorem tpe_and {a b : Expr} {rest : List Expr} {pos : Pos} {m n : Gam → Out R} (ha : PE X a (tE G W m)) (hb : PE X (.BoolOp .And (b :: rest) pos) (tE G W n)) : PE X (.BoolOp .And (a :: b :: rest) pos) (tE G W (eAnd m n)) := ⟨fun pins s σ H Q I h => (pe_and ha hb).run pins s σ H Q I (te_and h)⟩
theorem tpe_or {a b : Expr} {rest : List Expr} {pos : Pos} {m n : Gam → Out R} (ha : PE X a (tE G W m)) (hb : PE X (.BoolOp .Or (b :: rest) pos) (tE G W n)) : PE X (.BoolOp .Or (a :: b :: rest) pos) (tE G W (eOr m n)) := ⟨fun pins s σ H Q I h => (pe_or ha hb).run pins s σ H Q I (te_or h)⟩
theorem tpe_not {a : Expr} {pos : Pos} {m : Gam → Out R} (ha : PE X a (tE G W m)) : PE X (.UnaryOp .Not a pos) (tE G W (eNot m)) := ⟨fun pins s σ H Q I h => (pe_not ha).run pins s σ H Q I (te_not h)⟩
/-- a if c else b -/
def eIf (c : Gam → Out Bool) (a b : Gam → Out R) : Gam → Out R := fun γ => (c γ).bind fun v γ1 => match v with
  | true => a γ1
  | false => b γ1
theorem te_if {c : Gam → Out Bool} {a b : Gam → Out R} {Q : VK} (h : tE G W (eIf c a b) σ H Q) : tIf (tT G W c) (tE G W a) (tE G W b) σ H Q := by
  obtain ⟨HF, γ, k, p⟩ := h
  refine ⟨HF, γ, k, post_bind (r1 := rT) p fun v γ1 v' H1 HF1 k1 s1 e p1 => ?_⟩
  cases e
  cases v with
  | true => rw [if_pos rfl]; exact ⟨HF1, γ1, k1, post_from later_E s1 p1⟩
  | false => rw [if_neg (by simp)]; exact ⟨HF1, γ1, k1, post_from later_E s1 p1⟩
theorem tpe_if {c a b : Expr} {pos : Pos} {mc : Gam → Out Bool} {ma mb : Gam → Out R} (hc : PT X c (tT G W mc)) (ha : PE X a (tE G W ma)) (hb : PE X b (tE G W mb)) : PE X (.IfExp c a b pos) (tE G W (eIf mc ma mb)) := ⟨fun pins s σ H Q I h => (pe_ifExp hc ha hb).run pins s σ H Q I (te_if h)⟩
/-- a < b < c -/
def eChain (f f' : D → D → Option BR) (ma mb mc : Gam → Out Ar) : Gam → Out R := fun γ => (ma γ).bind fun a γ1 => (mb γ1).bind fun b γ2 => match look γ2 a with
  | some d1 => (match look γ2 b with
    | some d2 => (match f d1 d2 with
      | some (.val (.bl true)) => (mc γ2).bind fun c γ3 => (match look γ3 b with
        | some d2' => (match look γ3 c with
          | some d3 => ofB (f' d2' d3) γ3
          | none => .bad)
        | none => .bad)
      | some (.val (.bl false)) => .ok (.fz (.bl false)) γ2
      | _ => .bad)
    | none => .bad)
  | none => .bad
theorem te_chain {r r' : R2} {f f' : D → D → Option BR} (F : OpOk G r f) (F' : OpOk G r' f') {ma mb mc : Gam → Out Ar} {Q : VK} (h : tE G W (eChain f f' ma mb mc) σ H Q) : tChain r r' (tO G W ma) (tO G W mb) (tO G W mc) σ H Q := by
  obtain ⟨HF, γ, k, p⟩ := h
  refine ⟨HF, γ, k, post_bind (r1 := rO G) p fun a γ1 x H1 HF1 k1 s1 r1 p1 => ?_⟩
  refine ⟨HF1, γ1, k1, post_bind (r1 := rO G) (post_from later_E s1 p1) fun b γ2 y H2 HF2 k2 s2 r2 p2 => ?_⟩
  have p2 := post_from later_E s2 p2
  cases e1 : look γ2 a with
  | none => rw [e1] at p2; exact p2.elim
  | some d1 =>
  rw [e1] at p2
  simp only at p2
  cases e2 : look γ2 b with
  | none => rw [e2] at p2; exact p2.elim
  | some d2 =>
  rw [e2] at p2
  simp only at p2
  split at p2
  · rename_i e3
    refine F k2.sub (look_pk k2 (ArOk.mono s2.mono r1) e1) (look_pk k2 r2 e2) e3 fun z H3 bb => ?_
    obtain ⟨rfl, rz⟩ := bb
    refine ⟨true, rep_bl rz, ?_⟩
    rw [if_pos rfl]
    refine ⟨HF2, γ2, k2, post_bind (r1 := rO G) p2 fun c γ3 w H4 HF4 k4 s4 r4 p4 => ?_⟩
    have p4 := post_from later_E s4 p4
    cases e4 : look γ3 b with
    | none => rw [e4] at p4; exact p4.elim
    | some d2' =>
    rw [e4] at p4
    simp only at p4
    cases e5 : look γ3 c with
    | none => rw [e5] at p4; exact p4.elim
    | some d3 =>
    rw [e5] at p4
    simp only at p4
    cases e6 : f' d2' d3 with
    | none => rw [e6] at p4; exact p4.elim
    | some br =>
      rw [e6] at p4
      exact F' k4.sub (look_pk k4 (ArOk.mono s4.mono r2) e4) (look_pk k4 r4 e5) e6 fun v H' bb => br_fin k4 p4 bb
  · rename_i e3
    refine F k2.sub (look_pk k2 (ArOk.mono s2.mono r1) e1) (look_pk k2 r2 e2) e3 fun z H3 bb => ?_
    obtain ⟨rfl, rz⟩ := bb
    refine ⟨false, rep_bl rz, ?_⟩
    rw [if_neg (by simp)]
    exact p2 (.bl false) _ HF2 k2 .refl (flat_rep (G := G) (HF := HF2) (d := .bl false) (v := .bl false) rfl)
  · exact p2.elim
theorem tpe_chain {op op' : CmpOp} {r r' : R2} {f f' : D → D → Option BR} {a b c : Expr} {pos : Pos} {ma mb mc : Gam → Out Ar} (ho : OpR X (compareOp op) r) (ho' : OpR X (compareOp op') r') (F : OpOk G r f) (F' : OpOk G r' f') (ha : PE X a (tO G W ma)) (hb : PE X b (tO G W mb)) (hc : PE X c (tO G W mc)) (hm : lastMarks [op, op'] [b, c] = false) :
    PE X (.Compare a [op, op'] [b, c] pos) (tE G W (eChain f f' ma mb mc)) := ⟨fun pins s σ H Q I h => (pe_chain ho ho' ha hb hc hm).run pins s σ H Q I (te_chain F F' h)⟩
theorem tpt_chain {op op' : CmpOp} {r r' : R2} {f f' : D → D → Option BR} {a b c : Expr} {pos : Pos} {ma mb mc : Gam → Out Ar} (ho : OpR X (compareOp op) r) (ho' : OpR X (compareOp op') r') (F : OpOk G r f) (F' : OpOk G r' f') (ha : PE X a (tO G W ma)) (hb : PE X b (tO G W mb)) (hc : PE X c (tO G W mc)) (hm : lastMarks [op, op'] [b, c] = false) :
    PT X (.Compare a [op, op'] [b, c] pos) (tT G W (toT (eChain f f' ma mb mc))) := ⟨fun pins s σ H Q I h => (pt_chain ho ho' ha hb hc hm).run pins s σ H Q I (te_chain F F' (tt_of h))⟩
/-- -a of an int -/
def eNeg (m : Gam → Out Ar) : Gam → Out R := fun γ => (m γ).bind fun a γ1 => match look γ1 a with
  | some (.int i) => .ok (.fz (.int (-i))) γ1
  | _ => .bad
theorem tpe_neg {a : Expr} {pos : Pos} {m : Gam → Out Ar} (ha : PE X a (tO G W m)) : PE X (.UnaryOp .USub a pos) (tE G W (eNeg m)) := ⟨fun pins s σ H Q I h => (pe_un un_neg ha).run pins s σ H Q I (by
  obtain ⟨HF, γ, k, p⟩ := h
  refine ⟨HF, γ, k, post_bind (r1 := rO G) p fun a γ1 x H1 HF1 k1 s1 r1 p1 => ?_⟩
  split at p1
  · rename_i i e
    exact ⟨i, (look_pk k1 r1 e).int, p1 (.int (-i)) H1 HF1 k1 s1 (flat_rep (G := G) (HF := HF1) (d := .int (-i)) (v := .int (-i)) rfl)⟩
  · exact p1.elim)⟩
end
end T

-- text T14
set_option Elab.async false
set_option linter.all false
set_option maxRecDepth 100000
set_option maxHeartbeats 4000000
namespace T
open PySem L2 PyProof.Rows GenW
section
variable {prog : Program} {w : World} {A : Around} {R : GenEnd} {Y : Protocol} {n : Nat} {s₀ : Shared} {fs : List Frame} {s : Shared} {env : Env}
abbrev EEx (env : Env) : Value → Sem PySem.Fin := fun x => (do noteFrame x env; theTreesLotGoes x : Sem Unit).wrap (fun _ => .raise x) .raise id id
theorem seg_forLoop {target : Expr} {it : Value} {body orelse : List Stmt}
    (h : wpAny (model prog w) (A.over (.forLoop target it body orelse env) fs) (pyNext it) (fun r s1 => match r with
        | none => Seg (model prog w) A R Y n s₀ (.forLoop target it body orelse env) (.pure (.again (.block orelse env))) fs s1
        | some v => wpAny (model prog w) (A.over (.forLoop target it body orelse env) fs) (letOwnedTupleGo target it v) (fun _ s2 =>
            wpAny (model prog w) (A.over (.forLoop target it body orelse env) fs) (assign target env v) (fun _ s3 =>
              Seg (model prog w) A R Y n s₀ (.forLoop target it body orelse env) ((execs body env).wrap (fun f => match f with
                | .next | .cont => .pure (.again (.forLoop target it body orelse env))
                | .brk => .pure (.done .next)
                | .ret v => .pure (.done (.ret v))) (EEx env) id id) fs s3)
              (fun x s' => Seg (model prog w) A R Y n s₀ (.forLoop target it body orelse env) (EEx env x) fs s') s2)
            (fun x s' => Seg (model prog w) A R Y n s₀ (.forLoop target it body orelse env) (EEx env x) fs s') s1)
      (fun x s' => Seg (model prog w) A R Y n s₀ (.forLoop target it body orelse env) (EEx env x) fs s') s) :
    Seg (model prog w) A R Y n s₀ (.forLoop target it body orelse env) ((model prog w).den (.forLoop target it body orelse env)) fs s := by
  show Seg _ A R Y n s₀ _ ((forTurn target it body orelse env).onRaise (fun x => do noteFrame x env; theTreesLotGoes x)) fs s
  have ee : ∀ x s', Seg (model prog w) A R Y n s₀ (.forLoop target it body orelse env) (EEx env x) fs s' → Seg (model prog w) A R Y n s₀ (.forLoop target it body orelse env) ((do noteFrame x env; theTreesLotGoes x : Sem Unit) >>= fun _ => (Sem.raise x : Sem PySem.Fin)) fs s' := fun x s' hx => by
    rw [Sem.bind_eq_wrap']; exact hx
  rw [Sem.onRaise_eq_wrap]
  unfold forTurn
  refine seg_bind_wrap (wpAny_standAt ?_)
  refine seg_bind_wrap (wpAny_onRaise (wpAny_mono h (fun r s1 h1 => ?_) fun x s' hx => wpAny_standAt (ee x s' hx)))
  cases r with
  | none => exact h1
  | some v =>
    refine seg_bind_wrap (wpAny_mono h1 (fun _ s2 h2 => ?_) fun x s' hx => ee x s' hx)
    refine seg_bind_wrap (wpAny_mono h2 (fun _ s3 h3 => ?_) fun x s' hx => ee x s' hx)
    rw [Sem.bind_eq_wrap', Sem.wrap_wrap]
    rw [Sem.wrap_congr (execs body env) _ _ (K' := fun f => match f with
            | .next | .cont => .pure (.again (.forLoop target it body orelse env))
            | .brk => .pure (.done .next)
            | .ret v => .pure (.done (.ret v))) (H' := EEx env)
        (fun f => by cases f <;> rfl)
        (fun e => by first | exact Sem.bind_eq_wrap _ _ | (show (do noteFrame e env; theTreesLotGoes e : Sem Unit).bind (fun _ => .raise e) = _; rw [Sem.bind_eq_wrap]))]
    exact h3
end

section
variable {X : Cx} {tg : Expr}
def tGFor (wi : TI) (g : TG) (tb : TGn) : TGn := fun D ys σ H => wi σ H fun J H1 => ∃ Wl : Nat → Nat → List V → L2.St → Hp → Prop, (∃ m, Wl 0 m ys σ H1) ∧ ∀ i m ys σ H, Wl i m ys σ H →
  (J.stop i H ∧ D.nx ys σ H) ∨ (J.go i H ∧ ∃ N : List V → L2.St → Hp → Prop, (∀ ys' σ' H', N ys' σ' H' → ∃ m', m' < m ∧ Wl (i + 1) m' ys' σ' H') ∧ ∀ x H', J.yld i H x H' → g x σ H' fun σ2 H2 => tb { D with nx := N, ct := N, bk := D.nx } ys σ2 H2)
theorem gs_for {iter : Expr} {body : List Stmt} {wi : TI} {g : TG} {tb : TGn} {pos : Pos} (hp : PassesOwn (model X.prog X.w) X.A X.env X.xe) (hcalm : X.calm = true) (hi : PI X tg iter wi) (hg : PG X tg g) (hb : GSs X body tb)
    (hfs : ∀ x, foldedSetIterable iter X.env x = pure x) : GS X (.For tg iter body [] pos) (tGFor wi g tb) := by
  refine ⟨fun A S ip R n ys s₀ c fs K J gd lv s σ H D gc hn k hI ht => ?_⟩
  obtain ⟨acc0, cc0, r0, I0⟩ := hI
  rw [exec_For]
  refine seg_bind_wrap (wpAny_standAt ?_)
  refine seg_bind_wrap ?_
  rw [gc.over]
  refine wpAny_mono (hi.run _ s σ H _ I0 ht) (fun v s1 h1 => ?_) fun x s' hx => k.exc n s₀ x s' hx
  refine seg_bind_wrap (wpAny_of_eq (hfs v) ?_)
  refine seg_bind_wrap (wpAny_standAt ?_)
  refine seg_bind_wrap (wpAny_holding ?_)
  rw [gc.over]
  refine wpAny_mono h1 (fun itv s2 h2 => ?_) fun x s' hx => k.exc n s₀ x s' hx
  obtain ⟨it, fp, tn, Jt, H2, e, I2, T, st2, f2, Wl, ⟨m0, w0⟩, turn⟩ := h2
  subst e
  refine seg_call fun p => ?_
  have gl := fun (kk : Result → Sem PySem.Fin) => gc_loop (k := kk) (c' := .forLoop tg (.ref it) body [] X.env) (l := lv []) (kp := []) (p := p) gc rfl rfl
  have stat : ∀ {H' : Hp} (acc : Array Value) (cc : Nat), (∀ b ∈ fp, H' b = none) → ∀ b ∈ fp, FpOk X ((S, lstObj acc cc) :: ip) H' b := fun {H'} acc cc hn' b hb => by
    obtain ⟨_, q2, q3, q4, q5, q6⟩ := f2 b hb
    refine ⟨hn' b hb, q2, q3, q4, q5, fun p hp => ?_⟩
    rcases List.mem_append.mp hp with hp | hp
    · exact q6 p (List.mem_append_left _ hp)
    · rcases List.mem_cons.mp hp with hp | hp
      · rw [hp]; exact q6 (S, lstObj acc0 cc0) (List.mem_append_right _ List.mem_cons_self)
      · exact q6 p (List.mem_append_right _ (List.mem_cons_of_mem _ hp))
  have hSfp : ∀ b ∈ fp, b ≠ S := fun b hb z => (f2 b hb).2.2.2.2.2 (S, lstObj acc0 cc0) (List.mem_append_right _ List.mem_cons_self) z.symm
  have loop : ∀ (m i n : Nat) (ys : List V) (s₀ s : Shared) (σ : L2.St) (H : Hp), n + ys.length = sizeLine → Wl i m ys σ H → GI X S ip ys σ H s → tn i s.heap → (∀ b ∈ fp, H b = none) →
      Seg (model X.prog X.w) A R (GY X S) n s₀ (.forLoop tg (.ref it) body [] X.env) ((model X.prog X.w).den (.forLoop tg (.ref it) body [] X.env))
        (.ret (fun r => ((match r with | .ok f => (.pure f : Sem Flow) | .error e => .raise e).onRaise (cameBack X.env)).wrap K J gd lv) none (gd false) (lv []) c p [] :: fs) s := by
    intro m
    induction m using Nat.strongRecOn with
    | ind m ih =>
      intro i n ys s₀ s σ H hn w hI st fr
      have ee : ∀ (n : Nat) (s₀ : Shared) (x : Value) (s' : Shared), X.xe x s' → Seg (model X.prog X.w) A R (GY X S) n s₀ (.forLoop tg (.ref it) body [] X.env)
          (EEx X.env x)
          (.ret (fun r => ((match r with | .ok f => (.pure f : Sem Flow) | .error e => .raise e).onRaise (cameBack X.env)).wrap K J gd lv) none (gd false) (lv []) c p [] :: fs) s' := fun n s₀ x s' hx => by
        refine seg_wrap ?_
        rw [(gl _).over]
        refine wpAny_bind (wpAny_mono (hp x s' hx) (fun _ s'' hcb => wpAny_theTreesLotGoes ?_) fun y s'' hcb => ?_)
        · exact seg_leaf (.error x) (seg_cameBack gc k hcb)
        · exact seg_leaf (.error y) (seg_cameBack gc k hcb)
      refine seg_forLoop ?_
      rw [(gl _).over]
      obtain ⟨acc, cc, r, I⟩ := hI
      rcases turn i m ys σ H w with ⟨stop, qn⟩ | ⟨go, N, hN, step⟩
      · refine wpAny_mono (T.done X rfl rfl rfl hcalm i _ s σ H X.xe I (stat acc cc fr) st stop) (fun r' s4 h4 => ?_) fun x s' hx => ee n s₀ x s' hx
        obtain ⟨rfl, I4⟩ := h4
        refine seg_again rfl ?_
        exact seg_leaf (.ok .next) (k.ok n ys s₀ s4 .next hn ⟨σ, H, ⟨acc, cc, r, I4⟩, qn⟩)
      · refine wpAny_mono (T.item X rfl rfl rfl hcalm i _ s σ H X.xe I (stat acc cc fr) st go) (fun r' s4 h4 => ?_) fun x s' hx => ee n s₀ x s' hx
        obtain ⟨u, rfl, h4⟩ := h4
        refine wpAny_mono h4 (fun _ s5 h5 => ?_) fun x s' hx => ee n s₀ x s' hx
        obtain ⟨x, H5, I5, r5, y5, st5, fr5⟩ := h5
        have I5' := I5.pinned (stat acc cc fr5) (T.obj _ _ st5)
        refine wpAny_mono (hg.run _ s5 σ H5 x u _ I5' r5 (step x H5 y5)) (fun _ s6 h6 => ?_) fun x s' hx => ee n s₀ x s' hx
        obtain ⟨σ6, H6, I6, q6⟩ := h6
        have gb : GC X S (ip ++ pinsAt fp s5.heap) A (.forLoop tg (.ref it) body [] X.env) (.ret (fun r => ((match r with | .ok f => (.pure f : Sem Flow) | .error e => .raise e).onRaise (cameBack X.env)).wrap K J gd lv) none (gd false) (lv []) c p [] :: fs) id :=
          (fun q => { gl _ with ip := q }) (fun p hp => (List.mem_append.mp hp).elim (fun hp => gc.ip p hp) fun hp => hSfp _ (of_pinsAt hp).1)
        have again : ∀ {σ7 : L2.St} {H7 : Hp} {ys' : List V} {s7 : Shared}, GI X S (ip ++ pinsAt fp s5.heap) ys' σ7 H7 s7 → N ys' σ7 H7 → ∃ m', m' < m ∧ Wl (i + 1) m' ys' σ7 H7 ∧ GI X S ip ys' σ7 H7 s7 ∧ tn (i + 1) s7.heap ∧ ∀ b ∈ fp, H7 b = none := fun {σ7 H7 ys' s7} G7 n7 => by
          obtain ⟨acc7, cc7, r7, I7⟩ := G7
          obtain ⟨m', hm, w7⟩ := hN ys' σ7 H7 n7
          have pn7 : ∀ b ∈ fp, ∀ o, s5.heap.get? b = some o → (b, o) ∈ X.pn ++ ((S, lstObj acc7 cc7) :: (ip ++ pinsAt fp s5.heap)) := fun b hb o e => List.mem_append_right _ (List.mem_cons_of_mem _ (List.mem_append_right _ (mem_pinsAt hb e)))
          refine ⟨m', hm, w7, ⟨acc7, cc7, r7, ?_⟩, T.keep _ _ _ st5 fun b hb o e => (I7.pin (b, o) (pn7 b hb o e)).1, fun b hb => ?_⟩
          · exact I7.pins_of fun p hp => by
              rcases List.mem_cons.mp hp with hp | hp
              · exact I7.pin p (List.mem_append_right _ (by rw [hp]; exact List.mem_cons_self))
              · exact I7.pin p (List.mem_append_right _ (List.mem_cons_of_mem _ (List.mem_append_left _ hp)))
          · obtain ⟨o, e, d⟩ := T.obj _ _ st5 b hb
            exact (I7.pin (b, o) (pn7 b hb o e)).2.1
        refine hb.run A S (ip ++ pinsAt fp s5.heap) R n ys s₀ _ _ _ _ id id s6 σ6 H6 { D with nx := N, ct := N, bk := D.nx } gb hn ⟨fun n' ys' s₀' s7 f hn' hs => ?_, fun n' s₀' x s3 hx => ee n' s₀' x s3 hx⟩ ⟨acc, cc, r, I6⟩ q6
        have out : ∀ {ys' : List V} {σ : L2.St} {H : Hp} {s7 : Shared}, GI X S (ip ++ pinsAt fp s5.heap) ys' σ H s7 → GI X S ip ys' σ H s7 := fun {ys' σ H s7} G7 => by
          obtain ⟨acc7, cc7, r7, I7⟩ := G7
          exact ⟨acc7, cc7, r7, I7.pins_of fun p hp => by
              rcases List.mem_cons.mp hp with hp | hp
              · exact I7.pin p (List.mem_append_right _ (by rw [hp]; exact List.mem_cons_self))
              · exact I7.pin p (List.mem_append_right _ (List.mem_cons_of_mem _ (List.mem_append_left _ hp)))⟩
        cases f with
        | next =>
          obtain ⟨σ7, H7, G7, n7⟩ := hs
          obtain ⟨m', hm, w7, G8, st8, fr8⟩ := again G7 n7
          exact seg_again rfl (ih m' hm (i + 1) n' ys' s₀' s7 σ7 H7 hn' w7 G8 st8 fr8)
        | cont =>
          obtain ⟨σ7, H7, G7, n7⟩ := hs
          obtain ⟨m', hm, w7, G8, st8, fr8⟩ := again G7 n7
          exact seg_again rfl (ih m' hm (i + 1) n' ys' s₀' s7 σ7 H7 hn' w7 G8 st8 fr8)
        | brk =>
          obtain ⟨σ7, H7, G7, q7⟩ := hs
          exact seg_leaf (.ok .next) (k.ok n' ys' s₀' s7 .next hn' ⟨σ7, H7, out G7, q7⟩)
        | ret v =>
          obtain ⟨x7, σ7, H7, G7, r7, q7⟩ := hs
          exact seg_leaf (.ok (.ret v)) (k.ok n' ys' s₀' s7 (.ret v) hn' ⟨x7, σ7, H7, out G7, r7, q7⟩)
  exact loop m0 0 n ys s₀ s2 σ H2 hn w0 ⟨acc0, cc0, r0, I2⟩ st2 fun b hb => (f2 b hb).1
end
end T

-- text T15
set_option Elab.async false
set_option linter.all false
set_option maxRecDepth 100000
set_option maxHeartbeats 4000000
namespace T
open PySem L2 PyProof.Rows
open Sem (wp)
/-! rules at the level of the model, for built-ins -/
section
variable {prog : Program} {w : World} {A : Around} {E : Value → Shared → Prop} {s : Shared}
theorem sum_tupRaw {l : Addr} {its : List Value} {ns : List Int} {Q : Value → Shared → Prop} (hh : A.handled = none) (hl : s.heap.IsTuple l its.toArray) (hi : IntsAre its ns)
    (h : ∀ h' tk t', (∀ b o, s.heap.get? b = some o → h'.get? b = some o) → Q (.int ns.sum t') { s with heap := h', toks := tk }) : wpAny (model prog w) A (call (.builtin "sum") [.ref l]) Q E s := by
  obtain ⟨xs, e⟩ := hi.allInts.items
  have hn : numsOf (intItems xs).toList = ns := by rw [← e]; exact hi.numsOf
  rw [nums_intItems] at hn
  rw [e] at hl
  have hlt : l < s.heap.objs.size := by obtain ⟨_, e, _⟩ := hl; exact Heap.lt_size e
  refine call_sum_walkG (wpAny_pyIter_tuple hl ?_)
  refine ⟨_, _, _, _, _, _, numAt xs, rfl, Walks.tuple (A := A.in1) hh s.heap.objs.size l (Nat.ne_of_lt hlt) (intItems xs), ⟨⟨_, Heap.get?_push_size _ rfl, rfl, rfl⟩, hl.push _⟩, (fun b hb => ?_), (fun _ _ => intItems_at), fun h' tk t' hk => ?_⟩
  · show b < (s.heap.push _).objs.size
    rw [Heap.size_push]
    rcases List.mem_cons.mp hb with rfl | hb
    · exact Nat.lt_succ_self _
    · rcases List.mem_cons.mp hb with rfl | hb
      · exact Nat.lt_succ_of_lt hlt
      · cases hb
  · have := h h' tk t' fun b o e => by
      refine hk b o (fun hm => ?_) (Heap.get?_push_of_some _ e)
      rcases List.mem_cons.mp hm with e1 | hm
      · exact absurd (e1 ▸ Heap.lt_size e) (Nat.lt_irrefl _)
      · cases hm
    rw [preSum_eq]
    have e2 : (intItems xs).size = xs.size := by simp [intItems]
    rw [e2, List.take_of_length_le (by simp), hn]
    exact this
end
section
variable {X : Cx}
def rSumT (K : PySem.W.Frag) : List V → Hp → VK → Prop := fun vs H Q => ∃ (a : Addr) (ns : List Int), vs = [V.ref a] ∧ SqT K H a (ns.map V.int) ∧ Q (.int ns.sum) H
theorem cr_sumT (hc : X.calm = true) : CallR X (.builtin "sum") (rSumT X.K) := by
  intro pins s σ H vs us Q I r h
  obtain ⟨a, ns, rfl, hs, q⟩ := h
  obtain ⟨its, rv, hl, _⟩ := I.tuple hs
  rw [Vals.ref1 r]
  exact sum_tupRaw (I.ok.hd hc) hl rv.ints fun h' tk t' hk => ⟨.int _, H, I.kept hk, ⟨_, rfl⟩, q⟩
def bTx (b : Bool) : Str := if b then "True" else "False"
def rReprB : List V → Hp → VK → Prop := fun xs H Q => ∃ b, xs = [V.bl b] ∧ Q (.str (bTx b)) H
theorem cr_reprB : CallR X (.builtin "repr") rReprB := by
  intro pins s σ H vs us Q I r h
  obtain ⟨b, rfl, q⟩ := h
  cases r with
  | cons r rr =>
    cases rr
    cases r
    exact PySem.P.repr_of_bool ⟨.str (bTx b), H, I.tok _, ⟨_, rfl⟩, q⟩
/-- set(t), t a tuple of ints -/
def rSetT (K : PySem.W.Frag) (w : World) : List V → Hp → VK → Prop := fun xs H Q => ∃ (p : Addr) (ns : List Int), xs = [V.ref p] ∧ SqT K H p (ns.map V.int) ∧ ns.length ≤ 1000 ∧
  ∀ (q : Addr) (c : Nat) (ks : List Int), H q = none → ks.Nodup → (∀ k, k ∈ ks ↔ k ∈ ns) → ks.length = c → Q (.ref q) (upd H q (SetO w q (fun j => decide (j ∈ ns)) c))
theorem cr_setT (hc : X.calm = true) : CallR X (.type "set") (rSetT X.K X.w) := by
  intro pins s σ H vs us Q I r h
  obtain ⟨p, ns, rfl, hs, hl, q⟩ := h
  obtain ⟨its, rv, pt, hz⟩ := I.tuple hs
  rw [Vals.ref1 r]
  refine call_set_tupI ns (I.ok.hd hc) (show s.heap.IsTuple p its.toArray from pt) (ints_of_vals rv) (by unfold scanBound; omega) fun h' tk c R1 hcn k => ?_
  have R2 := R1
  obtain ⟨o, es, ep, t, ho, hex, hdt, g, nd, hm2, hb, hf, hn, hr, hl2⟩ := R1
  refine ⟨.ref s.heap.objs.size, upd H s.heap.objs.size (SetO X.w s.heap.objs.size (fun j => decide (j ∈ ns)) c), I.laid (t' := tk) k (Nat.le_refl _) (setO_new R2), rfl, ?_⟩
  refine q _ c (es.toList.map keyOf) (I.hok.fresh (Nat.le_refl _)) nd (fun k => ?_) ?_
  · rw [← hm2 k, decide_eq_true_eq]
  · rw [List.length_map, Array.length_toList]; exact hn
def rLenSetO (w : World) : List V → Hp → VK → Prop := fun xs H Q => ∃ (a : Addr) (S : Int → Bool) (n : Nat), xs = [V.ref a] ∧ H a = some (SetO w a S n) ∧ n < 1000000 ∧ Q (.int n) H
theorem cr_lenSetO : CallR X (.builtin "len") (rLenSetO X.w) := by
  intro pins s σ H vs us Q I r h
  obtain ⟨a, S, n, rfl, ha, hn1, q⟩ := h
  have R := setO_get I ha
  rw [Vals.ref1 r]
  obtain ⟨o, es, ep, t, ho, hex, hd, _, _, _, _, hf, hn, _⟩ := R
  exact call_len_set ho hex hd hf (by rw [hn]; omega) ⟨.int n, H, I.tok _, ⟨_, by rw [hn]⟩, q⟩
end
end T

-- text T16
set_option Elab.async false
set_option linter.all false
set_option maxRecDepth 100000
set_option maxHeartbeats 4000000
namespace T
open PySem L2 PyProof.Rows
open Sem (wp)
theorem meets_enumerate_newB1 {v : Value} {o : Obj} {H : Heap → Prop} (B : Begins v o H) :
    Meets (Builtin.«enumerate.__new__» ⟨[.type "enumerate", v], []⟩) (fun _ R s => H s.heap ∧
      R (.ok (.ret (.ref (s.heap.push o).objs.size))) { s with heap := (s.heap.push o).push { cls := .type "enumerate", data := .fields #[.none, .bool false, .ref s.heap.objs.size, rawInt 0, .none, .none] } }) :=
  .of_wp fun prog w A R s h => by
    obtain ⟨hp, g, d, tk, os⟩ := s; obtain ⟨h1, h⟩ := h
    have hsub := sub_enumerate
    have q1 : ∀ {A' : Around} {E : Value → Shared → Prop} {Q : Value → Shared → Prop}, Q (.ref hp.objs.size) ⟨hp.push o, g, d, tk, os⟩ → wpAny (model prog w) A' (pyIter v) Q E ⟨hp, g, d, tk, os⟩ :=
      fun q => B.iter prog w _ _ ⟨hp, g, d, tk, os⟩ _ h1 q
    wp_walk using q1
    refine wpAny_stack_any fun st => wpAny_pure ?_
    split
    · rename_i c _ _ _ _ _
      cases (c == Value.type "enumerate")
      · wp_walk using q1
        exact ⟨_, rfl, h⟩
      · wp_walk using q1
        exact ⟨_, rfl, h⟩
    · wp_walk using q1
      exact ⟨_, rfl, h⟩
section
variable {prog : Program} {w : World} {A : Around} {E : Value → Shared → Prop} {s : Shared}
theorem enum_begins1 {v : Value} {o : Obj} {H : Heap → Prop} {Q : Value → Shared → Prop} (B : Begins v o H) (h1 : H s.heap)
    (h : ∀ h', IsEnum h' (s.heap.objs.size + 1) s.heap.objs.size 0 .none → h'.get? s.heap.objs.size = some o → h'.objs.size = s.heap.objs.size + 2 →
      (∀ b o, s.heap.get? b = some o → h'.get? b = some o) → Q (.ref (s.heap.objs.size + 1)) { s with heap := h' }) :
    wpAny (model prog w) A (call (.type "enumerate") [v]) Q E s := by
  refine callType_new F.called_enumerate (by decide) (F.typeCall_enumerate_1 _) (F.newCall_enumerate_1 _) (fun obj => F.args_object_init_2 obj _) F.entry_enumerate_new
    (meets_enumerate_newB1 B) ⟨h1, ?_⟩
  have hz : (s.heap.push o).objs.size = s.heap.objs.size + 1 := Heap.size_push ..
  show _ ∧ _
  rw [hz]
  have he : IsEnum ((s.heap.push o).push { cls := .type "enumerate", data := .fields #[.none, .bool false, .ref s.heap.objs.size, rawInt 0, .none, .none] }) (s.heap.objs.size + 1) s.heap.objs.size 0 .none := by
    have := Heap.get?_push_size (s.heap.push o) (o := { cls := .type "enumerate", data := .fields #[.none, .bool false, .ref s.heap.objs.size, rawInt 0, .none, .none] }) rfl
    rw [hz] at this; exact this
  refine ⟨⟨_, he, rfl⟩, h _ he (Heap.get?_push_of_some _ (Heap.get?_push_size _ B.free)) (by rw [Heap.size_push, hz]) fun b o x => Heap.get?_push_of_some _ (Heap.get?_push_of_some _ x)⟩
end
/-- the tuple at a, each item in a new pair -/
def IteT (K : PySem.W.Frag) (a : Addr) : It :=
  ⟨fun i H => ∃ (xs : List V) (x : V), SqT K H a xs ∧ xs[i]? = some x, fun i H v H' => ∃ T x, v = .ref T ∧ H T = none ∧ H' = upd H T (.tup [.int (i : Nat), x]) ∧ ∀ xs, SqT K H a xs → xs[i]? = some x, fun i H => ∃ xs : List V, SqT K H a xs ∧ xs.length = i⟩
theorem isT_at {h h' : Heap} {it a : Addr} {i : Nat} (x : h.IsTupleIter it a i) (e : ∀ o, h.get? it = some o → h'.get? it = some o) : h'.IsTupleIter it a i := let ⟨o, ho, r⟩ := x; ⟨o, e _ ho, r⟩
theorem turn_enumT {P : Program} {w : World} {K : PySem.W.Frag} {elts : List Expr} {kk : Nat} {tpos : Pos} (a e it : Addr) :
    Turn P w K (.Tuple elts kk tpos) (IteT K a) [e, it] e (fun i h => (∃ old, IsEnum h e it ((i : Nat) : Int) old) ∧ h.IsTupleIter it a i ∧ e ≠ it) where
  mem := by simp
  obj := fun i h st b hb => by
    obtain ⟨⟨old, he⟩, ⟨o, ho, hc, hd⟩, _⟩ := st
    have e' : b = e ∨ b = it := by simpa using hb
    rcases e' with z | z
    · rw [z]; exact ⟨_, he, fun v q => nomatch q⟩
    · rw [z]; exact ⟨o, ho, fun v q => by rw [hd] at q; cases q⟩
  keep := fun i h h' st k => let ⟨⟨old, he⟩, hi, hne⟩ := st; ⟨⟨old, k e (by simp) _ he⟩, hi.at fun o q => k it (by simp) o q, hne⟩
  item := by
    intro X hP hw hK hc i pins s σ H E I hf st hg
    subst hP hw hK
    obtain ⟨⟨old, he⟩, hit, hne⟩ := st
    obtain ⟨xs, x, hq, hx⟩ := hg
    obtain ⟨its, rv, p, hz⟩ := I.tuple hq
    have pt : s.heap.IsTuple a its.toArray := p
    obtain ⟨u, hu, ru⟩ := rv.get hx
    have hel : e < s.heap.objs.size := Heap.lt_size he
    have hil : it < s.heap.objs.size := by obtain ⟨_, q, _⟩ := hit; exact Heap.lt_size q
    have hae : a ≠ e := fun z => by
      obtain ⟨o, ho, hc, _⟩ := pt
      rw [z, he] at ho
      have := Option.some.inj ho
      rw [← this] at hc
      exact absurd (Value.type.inj hc) (by decide)
    have hai : a ≠ it := fun z => by
      obtain ⟨o, ho, hc, _⟩ := pt
      obtain ⟨o2, ho2, hc2, _⟩ := hit
      rw [z, ho2] at ho
      have := Option.some.inj ho
      rw [← this, hc2] at hc
      exact absurd (Value.type.inj hc) (by decide)
    have hlt : i < its.toArray.size := by
      have := (List.getElem?_eq_some_iff.mp hu).1
      simpa using this
    have D := Draws.tuple (prog := X.prog) (w := X.w) (A := X.A.in1) (I.ok.hd hc) it a hai its.toArray
    refine wpAny_pyNext_enum_itemD D he ⟨hit, pt⟩ hlt hne (by simp [Ne.symm hae, hne]) fun x' h' tk hPx ho hit' hT hsz hk => ?_
    have ex : x' = u := by
      have : its.toArray[i]? = some u := by simpa using hu
      rw [this] at hPx
      exact (Option.some.inj hPx).symm
    subst ex
    refine ⟨_, rfl, wpAny_letOwnedTupleGo_enum (s := { s with heap := h', toks := tk + 1 }) ho fun h'' he' sb => ?_⟩
    have hT2 : h''.get? s.heap.objs.size = some { cls := .type "tuple", data := .seq #[.int i tk, x'] } := (sb.2 _ (Nat.ne_of_gt hel)).trans hT
    have new : ObjOk X.prog X.w (upd H s.heap.objs.size (.tup [.int (i : Nat), x])) h'' s.heap.objs.size (.tup [.int (i : Nat), x]) :=
      ⟨by show 2 ≤ sizeLine; decide, [.int i tk, x'], .cons ⟨_, rfl⟩ (.cons ru .nil), ⟨_, hT2, rfl, _, rfl⟩⟩
    have I1 : Inv X pins σ (upd H s.heap.objs.size (.tup [.int (i : Nat), x])) { s with heap := h'', toks := tk + 1 } :=
      I.turnedNew (ch := [e, it]) (fun b ob hb q => (sb.2 b (fun z => hb (by simp [z]))).trans (hk b ob (fun z => hb (by simp [z])) (fun z => hb (by simp [z])) q)) hf (Nat.le_refl _) new
    refine ⟨.ref s.heap.objs.size, _, I1, rfl, ⟨_, x, rfl, I.hok.fresh (Nat.le_refl _), rfl, fun ys hy => by rw [I.tuple_inj hy hq]; exact hx⟩, ⟨⟨x', ?_⟩, hit'.1.at fun o q => (sb.2 it (Ne.symm hne)).trans q, hne⟩, fun b hb => ?_⟩
    · have e1 : ((i + 1 : Nat) : Int) = (i : Int) + 1 := by omega
      rw [e1]; exact he'
    · have hb' : b < s.heap.objs.size := by
        have e' : b = e ∨ b = it := by simpa using hb
        rcases e' with z | z
        · rw [z]; exact hel
        · rw [z]; exact hil
      rw [upd_ne (Nat.ne_of_lt hb')]
      exact (hf b hb).1
  done := by
    intro X hP hw hK hc i pins s σ H E I hf st hg
    subst hP hw hK
    obtain ⟨⟨old, he⟩, hit, hne⟩ := st
    obtain ⟨xs, hq, hx⟩ := hg
    obtain ⟨its, rv, p, hz⟩ := I.tuple hq
    have pt : s.heap.IsTuple a its.toArray := p
    have hai : a ≠ it := fun z => by
      obtain ⟨o, ho, hc, _⟩ := pt
      obtain ⟨o2, ho2, hc2, _⟩ := hit
      rw [z, ho2] at ho
      have := Option.some.inj ho
      rw [← this, hc2] at hc
      exact absurd (Value.type.inj hc) (by decide)
    have D := Draws.tuple (prog := X.prog) (w := X.w) (A := X.A.in1) (I.ok.hd hc) it a hai its.toArray
    obtain ⟨f0, f1, f2, f3, f4, f5⟩ := hf it (by simp)
    have hl := rv.length
    have hi : its.toArray.size = i := by simp; omega
    refine wpAny_pyNext_enum_endD D he ⟨by rw [hi]; exact hit, pt⟩ fun h' eb => ⟨rfl, I.turned (t' := s.toks) (fun b o hb q => eb b o hb q) f0 f1 f3 f4 f5⟩
  self := fun A i s Q E st h => let ⟨⟨_, he⟩, _⟩ := st; wpAny_pyIter_enum he h

def iEnumT (K : PySem.W.Frag) (ta : TA) : TI := fun σ H R => ta σ H fun vs H1 => ∃ a xs, vs = [.ref a] ∧ SqT K H1 a xs ∧ R (IteT K a) H1
theorem pi_enumT {X : Cx} {e : Expr} {ta : TA} {p pos tpos : Pos} {elts : List Expr} {kk : Nat} (hg : Gl X "enumerate") (hm : X.mg "enumerate" = none) (ha : PA X [e] ta) (hs : starEach [e] X.env = [(false, eval e X.env)]) :
    PI X (.Tuple elts kk tpos) (.Call (.Name "enumerate" p) [e] [] pos) (iEnumT X.K ta) := by
  refine ⟨fun pins s σ H R I h => ?_⟩
  refine Call_ (ld_blt I hg hm boot_enumerate (PyProof.Rows.callWith_type1 (thn (ha.run pos pins s σ H _ I h) fun us s1 ⟨vs, H1, I1, r1, q1⟩ => ?_) hs rfl))
  obtain ⟨a, xs, ex, hq, q⟩ := q1
  subst ex
  cases r1 with
  | cons r rr =>
    cases rr
    cases r
    obtain ⟨its, rv, p', hz⟩ := I1.tuple hq
    refine enum_begins1 (begins_tuple a its.toArray) (show s1.heap.IsTuple a its.toArray from p') fun h' he hit hsz hk => wpAny_pyIter_enum he ?_
    have I2 : Inv X pins σ H1 { s1 with heap := h' } := I1.kept (t' := s1.toks) hk
    refine ⟨s1.heap.objs.size + 1, [s1.heap.objs.size + 1, s1.heap.objs.size], _, _, H1, rfl, I2, turn_enumT a (s1.heap.objs.size + 1) s1.heap.objs.size, ⟨⟨.none, he⟩, ⟨_, hit, rfl, rfl⟩, Nat.succ_ne_self _⟩, fun b hb => ?_, q⟩
    have e' : b = s1.heap.objs.size + 1 ∨ b = s1.heap.objs.size := by simpa using hb
    have hle : s1.heap.objs.size ≤ b := by
      rcases e' with z | z
      · rw [z]; exact Nat.le_add_right _ _
      · rw [z]; exact Nat.le_refl _
    exact I1.fpOk hle (I1.hok.fresh hle)
/-! in the layer -/
section
variable {X : Cx} {G : Tab} {W : Wt} {σ : L2.St} {H HF HF' : Hp} {γ : Gam} {E : Ends} {tg : Expr}
def enD : Nat → List D → List D
  | _, [] => []
  | i, d :: ds => .tup [.int i, d] :: enD (i + 1) ds
theorem enD_length : ∀ (ds : List D) (i : Nat), (enD i ds).length = ds.length
  | [], _ => rfl
  | d :: ds, i => by show (enD (i + 1) ds).length + 1 = ds.length + 1; rw [enD_length ds]
theorem enD_get : ∀ (ds : List D) (k i : Nat) (d : D), ds[i]? = some d → (enD k ds)[i]? = some (.tup [.int ((k + i : Nat) : Int), d])
  | [], k, i, d, h => by simp at h
  | d0 :: ds, k, 0, d, h => by simp at h; subst h; rfl
  | d0 :: ds, k, i + 1, d, h => by
    show (enD (k + 1) ds)[i]? = _
    rw [enD_get ds (k + 1) i d (by simpa using h)]
    congr 5
    omega
def mEnum (ms : Gam → Out (List Ar)) : Gam → Out (List D) := fun γ => (ms γ).bind fun as γ1 => match as with
  | [.d (.tup ds)] => .ok (enD 0 ds) γ1
  | _ => .bad
theorem walk_enumT {K : PySem.W.Frag} {a : Addr} {xs : List V} : Walk (IteT K a) xs.length (fun H => SqT K H a xs) (fun i H v H' => ∃ T x, v = .ref T ∧ H T = none ∧ H' = upd H T (.tup [.int (i : Nat), x]) ∧ xs[i]? = some x) := by
  refine ⟨fun i _ hi q => ⟨xs, xs[i], q, by simp [hi]⟩, fun _ q => ⟨xs, q, rfl⟩, fun i H v H' _ q y => ?_⟩
  obtain ⟨T, x, h1, h2, h3, h4⟩ := y
  exact ⟨T, x, h1, h2, h3, h4 xs q⟩
theorem wk_enumT {ds : List D} {a : Addr} {xs : List V} (h1 : SqT X.K HF a xs) (r1 : RepL G HF ds xs) : Wk G (enD 0 ds) (IteT X.K a) HF :=
  wk_of (walk_enumT (K := X.K) (a := a) (xs := xs)) (by rw [enD_length, r1.length]) (fun HF2 H m m2 => SqT.mono (m.trans m2) h1) fun HF2 H i x H' m m2 hi y => by
    obtain ⟨T, v, e1, e2, e3, e4⟩ := y
    obtain ⟨d, ed, rd⟩ := r1.get' e4
    refine ⟨_, enD_get ds 0 i d ed, .inr ⟨T, [.int (i : Nat), v], [.int ((0 + i : Nat) : Int), d], e1, e2, e3, rfl, .cons ?_ (.one (Rep.mono m _ _ rd))⟩⟩
    unfold Rep
    rw [Nat.zero_add]
theorem tpi_enum {e : Expr} {ms : Gam → Out (List Ar)} {p pos tpos : Pos} {elts : List Expr} {kk : Nat} (hK : G.K = X.K) (hg : Gl X "enumerate") (hm : X.mg "enumerate" = none) (ha : PA X [e] (tA G W ms)) (hs : starEach [e] X.env = [(false, eval e X.env)]) :
    PI X (.Tuple elts kk tpos) (.Call (.Name "enumerate" p) [e] [] pos) (tI G W (mEnum ms)) :=
  ⟨fun pins s σ H R I h => (pi_enumT hg hm ha hs).run pins s σ H R I (by
    obtain ⟨HF, γ, k, p⟩ := h
    refine ⟨HF, γ, k, post_bind (r1 := rA G) p fun as γ1 vs H1 HF1 k1 s1 r1 p1 => ?_⟩
    split at p1
    · rename_i ds
      cases r1 with
      | cons q t =>
        cases t
        have q2 : Rep G HF1 (.tup ds) _ := q
        unfold Rep at q2
        obtain ⟨a, xs, rfl, h1, l1⟩ := q2
        rw [hK] at h1
        exact ⟨a, xs, rfl, SqT.mono k1.sub h1, p1 _ H1 HF1 k1 s1 (wk_enumT h1 l1)⟩
    · exact p1.elim)⟩
end
end T

-- text T17
set_option Elab.async false
set_option linter.all false
set_option maxRecDepth 100000
set_option maxHeartbeats 4000000
namespace L2
open PySem PySem.Spec PyProof.Rows
section
variable {prog : Program} {w : World} {A : Around} {E : Value → Shared → Prop} {s : Shared}
theorem fm_congr {α β : Type} {f g : α → Option β} : ∀ {l : List α}, (∀ x ∈ l, f x = g x) → l.filterMap f = l.filterMap g
  | [], _ => rfl
  | a :: l, h => by
    rw [List.filterMap_cons, List.filterMap_cons, h a (by simp), fm_congr fun x hx => h x (by simp [hx])]
theorem pick_rev (xs : Array Value) : ((List.range xs.size).filterMap fun (m : Nat) => xs[(((xs.size : Int) - 1) + (m : Int) * (-1)).toNat]?).toArray = xs.toList.reverse.toArray := by
  have e : (List.range xs.size).filterMap (fun (m : Nat) => xs[(((xs.size : Int) - 1) + (m : Int) * (-1)).toNat]?) = ((List.range xs.size).map fun k => xs.size - 1 - k).filterMap (xs[·]?) := by
    rw [List.filterMap_map]
    refine fm_congr fun m hm => ?_
    have := List.mem_range.mp hm
    show xs[(((xs.size : Int) - 1) + (m : Int) * (-1)).toNat]? = xs[xs.size - 1 - m]?
    have e : (((xs.size : Int) - 1) + (m : Int) * (-1)).toNat = xs.size - 1 - m := by omega
    rw [e]
  rw [e, PySem.W.krv_range, List.filterMap_reverse, PySem.W.krv_all]
theorem sliceApplied_rev {sl : Addr} {vs : Value} {n : Nat} {Q : Int × Int × Nat → Shared → Prop} (hs : s.heap.IsSliceOf sl .none .none vs) (ps : IsPart vs (some (-1)))
    (h : Q (((n : Int) - 1), -1, n) s) : wpAny (model prog w) A (Builtin.Slice.sliceApplied (.ref sl) (pure (n : Int))) Q E s := by
  obtain ⟨os, hos, hcs, hds⟩ := id hs
  unfold Builtin.Slice.sliceApplied Builtin.Slice.sliceFields
  refine wpAny_bind (wpAny_bind (wpAny_field hos hds (x := .none) rfl (wpAny_bind (wpAny_field hos hds (x := .none) rfl (wpAny_bind (wpAny_field hos hds (x := vs) rfl (wpAny_pure ?_)))))))
  refine wpAny_bind (HT.slicePart_ ps ?_)
  show wpAny _ _ (if ((-1 : Int) == 0) = true then _ else _) _ _ s
  rw [if_neg (by decide)]
  refine wpAny_bind (slicePart_none (wpAny_bind (slicePart_none (wpAny_bind (wpAny_pure ?_)))))
  show wpAny _ _ (pure (((n : Int) - 1), (-1 : Int), Builtin.Slice.slicePlaces ((n : Int) - 1) (-1) (-1))) _ _ s
  have e : Builtin.Slice.slicePlaces ((n : Int) - 1) (-1) (-1) = n := by
    unfold Builtin.Slice.slicePlaces
    rw [if_neg (by decide)]
    by_cases h : (n : Int) - 1 > -1
    · rw [if_pos h, show (-(-1) : Int) = 1 from rfl, Int.ediv_one]; omega
    · rw [if_neg h]; omega
  rw [e]
  exact wpAny_pure h
theorem getItem_tuple_rev {t sl : Addr} {items : Array Value} {vs : Value} {Q : Value → Shared → Prop} (ht : IsTup s.heap t items) (hs : s.heap.IsSliceOf sl .none .none vs) (ps : IsPart vs (some (-1)))
    (h : Q (.ref s.heap.objs.size) { s with heap := s.heap.push { cls := .type "tuple", data := .seq items.toList.reverse.toArray } })
    (hsz : items.size ≤ sizeLine) : wpAny (model prog w) A (getItem (.ref t) (.ref sl)) Q E s := by
  have htake : sizeOk (.seq items.toList.reverse.toArray) := by
    show items.toList.reverse.toArray.size ≤ sizeLine
    rw [List.size_toArray, List.length_reverse, Array.length_toList]
    omega
  obtain ⟨os, hos, hcs, hds⟩ := id hs
  have hTs : s.TypeIs (.ref sl) "slice" := ⟨os, hos, hcs⟩
  unfold getItem
  try with_reducible refine wpAny_holding ?_
  first | refine wpAny_bind (wpAny_pure ?_) | skip
  refine wpAny_bind (wpAny_sequenceKey ht.typeIs (by decide) ?_)
  refine wpAny_bind (wpAny_callSpecial?_slot (name := Str.ofString "__getitem__") ht.typeIs PyProof.Rows.slot_tuple_getitem
    (wpAny_call_entry PyProof.Rows.slot_tuple_getitem ht.typeIs entry_tuple_getitem ?_ (args_tuple_getitem _ _)))
  show wpAny _ _ (Builtin.Tuple.tupleItemsOf (.ref t) >>= _) _ _ s
  refine wpAny_bind (tupleItemsOf_ ht ?_)
  refine wpAny_bind (wpAny_typeOf hTs ?_)
  rw [if_pos (by decide)]
  refine wpAny_bind (sliceApplied_rev hs ps ?_)
  have hno : ¬ ((((items.size : Int) - 1) == 0 && (-1 : Int) == 1 && items.size == items.size) = true) := by
    intro q
    rw [Bool.and_eq_true, Bool.and_eq_true] at q
    exact absurd q.1.2 (by decide)
  show wpAny _ _ (if ((((items.size : Int) - 1) == 0 && (-1 : Int) == 1 && items.size == items.size)) = true then _ else _) _ _ s
  rw [if_neg hno, pick_rev]
  first
    | exact wpAny_bind (m := Builtin.Tuple.tupleExact _) (wpAny_newObj_type (wpAny_pure ⟨_, rfl, wpAny_pure h⟩) htake)
    | exact wpAny_bind (m := Builtin.Tuple.tupleExact _) (wpAny_newObj_type (wpAny_bind (wpAny_pure (wpAny_pure ⟨_, rfl, wpAny_pure h⟩))) htake)
    | exact wpAny_bind (wpAny_bind (m := Builtin.Tuple.tupleExact _) (wpAny_newObj_type (wpAny_pure (wpAny_pure ⟨_, rfl, wpAny_pure h⟩)) htake))
    | exact wpAny_bind (wpAny_bind (m := Builtin.Tuple.tupleExact _) (wpAny_newObj_type (wpAny_pure ⟨_, rfl, wpAny_pure h⟩) htake))
end
section
variable {X : Cx}
def tRevT (K : PySem.W.Frag) (te : TE) : TE := fun σ H Q => te σ H fun x H1 => ∃ a xs, x = .ref a ∧ SqT K H1 a xs ∧ ∀ p, H1 p = none → Q (.ref p) (upd H1 p (.tup xs.reverse))
theorem pe_revT {e : Expr} {te : TE} {k : Nat} {p1 p2 p3 pos : Pos} (he : PE X e te) : PE X (.Subscript e (.Slice none none (some (.UnaryOp .USub (.Constant (.int 1) k p1) p2)) p3) pos) (tRevT X.K te) := by
  refine ⟨fun pins s σ H Q I h => ?_⟩
  refine Subscript_ (thn (he.run pins s σ H _ I h) fun v s1 ⟨x, H1, I1, r1, q1⟩ => ?_)
  obtain ⟨a, xs, ex, hx, q⟩ := q1
  subst ex
  cases r1
  have hst : PO X (some (.UnaryOp .USub (.Constant (.int 1) k p1) p2)) (tPart (tUn (rU fun i => .int (-i)) (tC (.int 1)))) := po_some (pe_un un_neg pe_int)
  refine wpAny_Slice (thn (po_none.run pins s1 σ H1 (fun o H2 => o = none ∧ H2 = H1) I1 ⟨rfl, rfl⟩) fun vl s2 ⟨l, H2, I2, pl, el, e2⟩ => ?_)
  subst el e2
  refine thn (po_none.run pins s2 σ H2 (fun o H3 => o = none ∧ H3 = H2) I2 ⟨rfl, rfl⟩) fun vu s3 ⟨u, H3, I3, pu, eu, e3⟩ => ?_
  subst eu e3
  refine thn (hst.run pins s3 σ H3 (fun o H4 => o = some (-1) ∧ H4 = H3) I3 ⟨1, rfl, -1, rfl, rfl, rfl⟩) fun vs s4 ⟨o, H4, I4, ps, eo, e4⟩ => ?_
  subst eo e4
  have I5 : Inv X pins σ H4 { s4 with heap := s4.heap.push { cls := .type "slice", data := .fields #[vl, vu, vs] } } := I4.kept (t' := s4.toks) fun b ob q => Heap.get?_push_of_some _ q
  obtain ⟨its, r, ht, hz⟩ := I5.tuple hx
  have hlen := r.length
  show wpAny (model X.prog X.w) X.A (subscriptTail e (.Slice none none (some (.UnaryOp .USub (.Constant (.int 1) k p1) p2)) p3) (.ref a) (.ref s4.heap.objs.size)) (EP X pins σ Q) X.xe { s4 with heap := s4.heap.push { cls := .type "slice", data := .fields #[vl, vu, vs] } }
  refine tail_any (ops := [.ref a, .ref s4.heap.objs.size]) ht.typeIs (PyProof.Rows.slot_tuple_getitem.lookup) ?_ (by with_unfolding_all rfl)
  cases pl
  cases pu
  refine getItem_tuple_rev ht (Heap.IsSliceOf.new _ .none .none vs) ps ?_ (by rw [List.size_toArray]; omega)
  refine ⟨.ref _, _, I5.laid (t' := s4.toks) (o := .tup xs.reverse) (fun b ob q => Heap.get?_push_of_some _ q) (Nat.le_refl _) ?_, rfl, q _ (I5.hok.fresh (Nat.le_refl _))⟩
  exact ⟨by rw [List.length_reverse]; exact hz, _, r.reverse, IsTup.new _ _⟩
end
end L2

-- text T18
set_option Elab.async false
set_option linter.all false
set_option maxRecDepth 100000
set_option maxHeartbeats 4000000
namespace T
open PySem L2
/-! sorting of ints -/
def insI (x : Int) : List Int → List Int
  | [] => [x]
  | y :: ys => match decide (x ≤ y) with
    | true => x :: y :: ys
    | false => y :: insI x ys
def srt : List Int → List Int
  | [] => []
  | x :: xs => insI x (srt xs)
theorem insI_perm (x : Int) : ∀ ys, (insI x ys).Perm (x :: ys)
  | [] => .refl _
  | y :: ys => by
    unfold insI
    split
    · exact .refl _
    · exact ((insI_perm x ys).cons y).trans (.swap x y ys)
theorem srt_perm : ∀ xs, (srt xs).Perm xs
  | [] => .refl _
  | x :: xs => (insI_perm x (srt xs)).trans ((srt_perm xs).cons x)
theorem insI_sorted (x : Int) : ∀ ys : List Int, ys.Pairwise (· ≤ ·) → (insI x ys).Pairwise (· ≤ ·)
  | [], _ => by simp [insI]
  | y :: ys, h => by
    unfold insI
    obtain ⟨h1, h2⟩ := List.pairwise_cons.mp h
    split
    · rename_i e
      have e := of_decide_eq_true e
      exact List.pairwise_cons.mpr ⟨fun z hz => by
        rcases List.mem_cons.mp hz with rfl | hz
        · exact e
        · exact Int.le_trans e (h1 z hz), h⟩
    · rename_i e
      have e := of_decide_eq_false e
      refine List.pairwise_cons.mpr ⟨fun z hz => ?_, insI_sorted x ys h2⟩
      rcases List.mem_cons.mp ((insI_perm x ys).mem_iff.mp hz) with rfl | hz
      · omega
      · exact h1 z hz
theorem srt_sorted : ∀ xs, (srt xs).Pairwise (· ≤ ·)
  | [] => .nil
  | x :: xs => insI_sorted x _ (srt_sorted xs)
theorem sorted_eq : ∀ {l1 l2 : List Int}, l1.Perm l2 → l1.Pairwise (· ≤ ·) → l2.Pairwise (· ≤ ·) → l1 = l2
  | [], l2, p, _, _ => by
    have := p.length_eq
    cases l2 with
    | nil => rfl
    | cons _ _ => simp at this
  | a :: as, [], p, _, _ => by have := p.length_eq; simp at this
  | a :: as, b :: bs, p, h1, h2 => by
    obtain ⟨h1a, h1b⟩ := List.pairwise_cons.mp h1
    obtain ⟨h2a, h2b⟩ := List.pairwise_cons.mp h2
    have ab : a = b := by
      have m1 : a ∈ b :: bs := p.mem_iff.mp (by simp)
      have m2 : b ∈ a :: as := p.mem_iff.mpr (by simp)
      rcases List.mem_cons.mp m1 with e | m1
      · exact e
      · rcases List.mem_cons.mp m2 with e | m2
        · exact e.symm
        · have q1 := h2a a m1
          have q2 := h1a b m2
          omega
    subst ab
    rw [sorted_eq (List.Perm.cons_inv p) h1b h2b]
theorem srt_uniq {xs ns : List Int} (p : ns.Perm xs) (h : ns.Pairwise (· ≤ ·)) : ns = srt xs := sorted_eq (p.trans (srt_perm xs).symm) h (srt_sorted xs)
def ndup : List Int → List Int
  | [] => []
  | x :: xs => match memI x (ndup xs) with
    | true => ndup xs
    | false => x :: ndup xs
theorem memI_iff {x : Int} : ∀ {xs : List Int}, memI x xs = true ↔ x ∈ xs
  | [] => by simp [memI]
  | y :: ys => by
    unfold memI
    split
    · rename_i e
      simp [of_decide_eq_true e]
    · rename_i e
      have e := of_decide_eq_false e
      rw [memI_iff (xs := ys)]
      simp [Ne.symm e]
theorem ndup_mem {x : Int} : ∀ {xs : List Int}, x ∈ ndup xs ↔ x ∈ xs
  | [] => by simp [ndup]
  | y :: ys => by
    unfold ndup
    split
    · rename_i e
      have e := ndup_mem.mp (memI_iff.mp e)
      rw [ndup_mem (xs := ys), List.mem_cons]
      exact ⟨.inr, fun h => h.elim (fun z => z ▸ e) id⟩
    · rw [List.mem_cons, List.mem_cons, ndup_mem (xs := ys)]
theorem ndup_nodup : ∀ xs : List Int, (ndup xs).Nodup
  | [] => by simp [ndup]
  | y :: ys => by
    unfold ndup
    split
    · exact ndup_nodup ys
    · rename_i e
      refine List.nodup_cons.mpr ⟨fun h => ?_, ndup_nodup ys⟩
      rw [memI_iff.mpr h] at e
      cases e
/-- the members of a set, ascending -/
def setL (xs : List Int) : List Int := srt (ndup xs)
theorem nodup_perm {l1 l2 : List Int} (h1 : l1.Nodup) (h2 : l2.Nodup) (h : ∀ x, x ∈ l1 ↔ x ∈ l2) : l1.Perm l2 := (List.perm_ext_iff_of_nodup h1 h2).mpr h
theorem setL_uniq {xs ns : List Int} (h : ns.Pairwise (· < ·)) (m : ∀ k, k ∈ ns ↔ k ∈ xs) : ns = setL xs := by
  refine srt_uniq (nodup_perm (h.imp fun q => by omega) (ndup_nodup xs) fun k => by rw [m, ndup_mem]) (h.imp fun q => by omega)
theorem setL_len {xs ks : List Int} (h : ks.Nodup) (m : ∀ k, k ∈ ks ↔ k ∈ xs) : ks.length = (setL xs).length := by
  rw [show (setL xs).length = (ndup xs).length from (srt_perm _).length_eq]
  exact (nodup_perm h (ndup_nodup xs) fun k => by rw [m, ndup_mem]).length_eq
def intD : List Int → List D
  | [] => []
  | i :: is => .int i :: intD is
theorem intD_rep {G : Tab} {HF : Hp} : ∀ is : List Int, RepL G HF (intD is) (is.map V.int)
  | [] => .nil
  | i :: is => .cons (by unfold Rep; rfl) (intD_rep is)
section
variable {X : Cx} {G : Tab} {W : Wt} {σ : L2.St} {H HF HF' : Hp} {γ : Gam} {E : Ends}
def rSumB (K : PySem.W.Frag) : List V → Hp → VK → Prop := fun vs H Q => rSumT K vs H Q ∨ rSum K vs H Q
theorem cr_sumB (hc : X.calm = true) : CallR X (.builtin "sum") (rSumB X.K) := by
  intro pins s σ H vs us Q I r h
  rcases h with h | h
  · exact cr_sumT hc pins s σ H vs us Q I r h
  · exact cr_sum hc pins s σ H vs us Q I r h
def bSum : List D → Option BR
  | [.tup ds] => (match intsOf ds with
    | some is => some (.val (.int is.sum))
    | none => none)
  | [.lst ds] => (match intsOf ds with
    | some is => some (.val (.int is.sum))
    | none => none)
  | _ => none
theorem ok_sum (hK : G.K = X.K) : CallOk G (rSumB X.K) bSum := by
  intro H HF xs ds br Q sub p e h
  unfold bSum at e
  split at e
  · rename_i ds
    obtain ⟨v, rfl, q⟩ := pks_one p
    obtain ⟨a, ys, rfl, h1, r⟩ := q.tup sub
    cases q2 : intsOf ds with
    | none => rw [q2] at e; cases e
    | some bs =>
      rw [q2] at e
      cases e
      have ex := intsOf_rep q2 r
      subst ex
      rw [hK] at h1
      exact .inl ⟨a, bs, rfl, h1, h _ H bres_int⟩
  · rename_i ds
    obtain ⟨v, rfl, q⟩ := pks_one p
    obtain ⟨a, ys, rfl, h1, r⟩ := q.lst sub
    cases q2 : intsOf ds with
    | none => rw [q2] at e; cases e
    | some bs =>
      rw [q2] at e
      cases e
      have ex := intsOf_rep q2 r
      subst ex
      exact .inr ⟨a, bs, rfl, SqL.of h1, h _ H bres_int⟩
  · cases e
def bRepr : List D → Option BR
  | [.bl b] => some (.val (.str (bTx b)))
  | _ => none
theorem ok_repr : CallOk G rReprB bRepr := by
  intro H HF xs ds br Q sub p e h
  unfold bRepr at e
  split at e
  · rename_i b
    obtain ⟨v, rfl, q⟩ := pks_one p
    cases e
    exact ⟨b, by rw [q.bl], h _ H ⟨rfl, by unfold Rep; rfl⟩⟩
  · cases e
def bSorted : List D → Option BR
  | [.lst ds] => (match intsOf ds with
    | some is => some (.newL (intD (srt is)))
    | none => none)
  | _ => none
theorem ok_sorted : CallOk G (rSortedI X.K) bSorted := by
  intro H HF xs ds br Q sub p e h
  unfold bSorted at e
  split at e
  · rename_i ds
    obtain ⟨v, rfl, q⟩ := pks_one p
    obtain ⟨a, ys, rfl, h1, r⟩ := q.lst sub
    cases q2 : intsOf ds with
    | none => rw [q2] at e; cases e
    | some bs =>
      rw [q2] at e
      cases e
      have ex := intsOf_rep q2 r
      subst ex
      refine ⟨a, bs, rfl, SqL.of h1, fun ns' l p1 p2 n => ?_⟩
      rw [srt_uniq p1 p2]
      exact h _ _ ⟨l, _, rfl, n, rfl, intD_rep _⟩
  · cases e
/-! sorted(set(t)), len(set(t)) -/
def setOfA : List Ar → Option (List Int)
  | [.d (.tup ds)] => (match intsOf ds with
    | some is => (match Nat.blt is.length 60 with
      | true => some is
      | false => none)
    | none => none)
  | _ => none
def eSortSet (ms : Gam → Out (List Ar)) : Gam → Out R := fun γ => (ms γ).bind fun as γ1 => match setOfA as with
  | some is => .ok (.own (.lst (intD (setL is)))) γ1
  | none => .bad
def eLenSet (ms : Gam → Out (List Ar)) : Gam → Out R := fun γ => (ms γ).bind fun as γ1 => match setOfA as with
  | some is => .ok (.fz (.int (setL is).length)) γ1
  | none => .bad
theorem setOfA_ok {as : List Ar} {is : List Int} {vs : List V} (hK : G.K = X.K) (k : Sub HF H) (r : ArsOk G σ HF as vs) (e : setOfA as = some is) : ∃ p, vs = [.ref p] ∧ SqT X.K H p (is.map V.int) ∧ is.length < 60 := by
  unfold setOfA at e
  split at e
  · rename_i ds
    cases q2 : intsOf ds with
    | none => rw [q2] at e; cases e
    | some bs =>
      rw [q2] at e
      simp only at e
      split at e
      · rename_i hb
        cases e
        cases r with
        | cons q t =>
          cases t
          have q2' : Rep G HF (.tup ds) _ := q
          unfold Rep at q2'
          obtain ⟨a, xs, rfl, h1, l1⟩ := q2'
          have ex := intsOf_rep q2 l1
          subst ex
          rw [hK] at h1
          exact ⟨a, rfl, SqT.mono k h1, blt_of hb⟩
      · cases e
  · cases e
theorem te_sortSet (hK : G.K = X.K) {ms : Gam → Out (List Ar)} {Q : VK} (h : tE G W (eSortSet ms) σ H Q) : tCB (rSortedSet X.w) (tCons (tCB (rSetT X.K X.w) (tA G W ms)) tNil) σ H Q := by
  obtain ⟨HF, γ, k, p⟩ := h
  refine ⟨HF, γ, k, post_bind (r1 := rA G) p fun as γ1 xs H1 HF1 k1 s1 r1 p1 => ?_⟩
  have p2 := post_from later_E s1 p1
  cases e : setOfA as with
  | none => rw [e] at p2; exact p2.elim
  | some is =>
    rw [e] at p2
    obtain ⟨a, rfl, hq, hl⟩ := setOfA_ok (H := H1) hK k1.sub r1 e
    refine ⟨a, is, rfl, hq, by omega, fun q c ks n nd hm hc => ?_⟩
    refine ⟨q, _, c, rfl, upd_same, ?_, fun ns l p1 p2' p3 n2 => ?_⟩
    · rw [← hc]
      have := setL_len nd hm
      have h2 : (ndup is).length ≤ is.length := by
        have : ∀ xs : List Int, (ndup xs).length ≤ xs.length := fun xs => by
          induction xs with
          | nil => simp [ndup]
          | cons x xs ih =>
            unfold ndup
            split
            · simp; omega
            · simp; omega
        exact this is
      have h3 : (setL is).length = (ndup is).length := (srt_perm _).length_eq
      omega
    · have ens : ns = setL is := setL_uniq p1 fun k => by rw [p2' k, decide_eq_true_eq]
      subst ens
      exact br_fin (br := .newL (intD (setL is))) (k1.laid n) (post_from later_E (Stp.laid n) p2) ⟨l, _, rfl, n2, rfl, intD_rep _⟩
theorem te_lenSet (hK : G.K = X.K) {ms : Gam → Out (List Ar)} {Q : VK} (h : tE G W (eLenSet ms) σ H Q) : tCB (rLenSetO X.w) (tCons (tCB (rSetT X.K X.w) (tA G W ms)) tNil) σ H Q := by
  obtain ⟨HF, γ, k, p⟩ := h
  refine ⟨HF, γ, k, post_bind (r1 := rA G) p fun as γ1 xs H1 HF1 k1 s1 r1 p1 => ?_⟩
  have p2 := post_from later_E s1 p1
  cases e : setOfA as with
  | none => rw [e] at p2; exact p2.elim
  | some is =>
    rw [e] at p2
    obtain ⟨a, rfl, hq, hl⟩ := setOfA_ok (H := H1) hK k1.sub r1 e
    refine ⟨a, is, rfl, hq, by omega, fun q c ks n nd hm hc => ?_⟩
    have hcl : c = (setL is).length := by rw [← hc]; exact setL_len nd hm
    have h2 : (ndup is).length ≤ is.length := by
      have : ∀ xs : List Int, (ndup xs).length ≤ xs.length := fun xs => by
        induction xs with
        | nil => simp [ndup]
        | cons x xs ih =>
          unfold ndup
          split
          · simp; omega
          · simp; omega
      exact this is
    have h3 : (setL is).length = (ndup is).length := (srt_perm _).length_eq
    refine ⟨q, _, c, rfl, upd_same, by omega, ?_⟩
    subst hcl
    exact br_fin (br := .val (.int (setL is).length)) (k1.laid n) (post_from later_E (Stp.laid n) p2) bres_int
theorem tpe_sortSet {x y : Str} {p1 p2 pos pos2 : Pos} {e : Expr} {ms : Gam → Out (List Ar)} (hK : G.K = X.K) (hc : X.calm = true) (hg : Gl X "sorted") (hm : X.mg "sorted" = none) (hg2 : Gl X "set") (hm2 : X.mg "set" = none) (ha : PA X [e] (tA G W ms))
    (he : starEach [e] X.env = (false, eval e X.env) :: starEach [] X.env) (he2 : starEach [.Call (.Name "set" p2) [e] [] pos2] X.env = (false, eval (.Call (.Name "set" p2) [e] [] pos2) X.env) :: starEach [] X.env) :
    PE X (.Call (.Name "sorted" p1) [.Call (.Name "set" p2) [e] [] pos2] [] pos) (tE G W (eSortSet ms)) :=
  ⟨fun pins s σ H Q I h => (pe_callB (cr_sortedSet hc) hg hm rfl (pa_cons (pe_callTy (cr_setT hc) hg2 hm2 rfl ha (he := he)) pa_nil he2) (he := he2)).run pins s σ H Q I (te_sortSet hK h)⟩
theorem tpe_lenSet {x y : Str} {p1 p2 pos pos2 : Pos} {e : Expr} {ms : Gam → Out (List Ar)} (hK : G.K = X.K) (hc : X.calm = true) (hg : Gl X "len") (hm : X.mg "len" = none) (hg2 : Gl X "set") (hm2 : X.mg "set" = none) (ha : PA X [e] (tA G W ms))
    (he : starEach [e] X.env = (false, eval e X.env) :: starEach [] X.env) (he2 : starEach [.Call (.Name "set" p2) [e] [] pos2] X.env = (false, eval (.Call (.Name "set" p2) [e] [] pos2) X.env) :: starEach [] X.env) :
    PE X (.Call (.Name "len" p1) [.Call (.Name "set" p2) [e] [] pos2] [] pos) (tE G W (eLenSet ms)) :=
  ⟨fun pins s σ H Q I h => (pe_callB cr_lenSetO hg hm rfl (pa_cons (pe_callTy (cr_setT hc) hg2 hm2 rfl ha (he := he)) pa_nil he2) (he := he2)).run pins s σ H Q I (te_lenSet hK h)⟩
end
end T

-- text T19
set_option Elab.async false
set_option linter.all false
set_option maxRecDepth 100000
set_option maxHeartbeats 4000000
namespace T
open PySem L2
section
variable {X : Cx} {G : Tab} {W : Wt} {σ : L2.St} {H HF HF' : Hp} {γ : Gam} {E : Ends}
/-! tuple(range(n)), list(range(a, b)) -/
theorem rgD_rep {a : Int} : ∀ (n : Nat), RepL G HF (rgD a n) ((List.range n).map fun i => V.int (a + (i : Nat)))
  | n => by
    have go : ∀ (n : Nat) (a : Int), RepL G HF (rgD a n) ((List.range n).map fun i => V.int (a + (i : Nat))) := by
      intro n
      induction n with
      | zero => intro a; exact .nil
      | succ n ih =>
        intro a
        rw [List.range_succ_eq_map, List.map_cons, List.map_map]
        show RepL G HF (.int a :: rgD (a + 1) n) _
        refine .cons ?_ ?_
        · unfold Rep; show V.int (a + ((0 : Nat) : Int)) = _; rw [show a + ((0 : Nat) : Int) = a by omega]
        · have e : ((fun i => V.int (a + ((i : Nat) : Int))) ∘ Nat.succ) = fun i : Nat => V.int ((a + 1) + (i : Int)) := by
            funext i
            show V.int (a + ((i + 1 : Nat) : Int)) = _
            congr 1
            push_cast
            omega
          rw [e]
          exact ih (a + 1)
    exact go n a
def rgB (a b : Int) : Bool := inRg a && (inRg b && Nat.ble (b - a).toNat 16777216)
theorem rgB_ok {a b : Int} (h : rgB a b = true) : RgOk a b := by
  unfold rgB at h
  obtain ⟨h1, h2⟩ := Bool.and_eq_true_iff.mp h
  obtain ⟨h2, h3⟩ := Bool.and_eq_true_iff.mp h2
  obtain ⟨a1, a2⟩ := inRg_ok h1
  obtain ⟨b1, b2⟩ := inRg_ok h2
  exact ⟨a1, a2, b1, b2, Nat.le_of_ble_eq_true h3⟩
def eTupRg1 (m : Gam → Out Ar) : Gam → Out R := fun γ => (m γ).bind fun a γ1 => match look γ1 a with
  | some (.int j) => (match rgB 0 j with
    | true => .ok (.fz (.tup (rgD 0 (j - 0).toNat))) γ1
    | false => .bad)
  | _ => .bad
def eLstRg2 (m1 m2 : Gam → Out Ar) : Gam → Out R := fun γ => (m1 γ).bind fun a γ1 => (m2 γ1).bind fun b γ2 => match look γ2 a with
  | some (.int i) => (match look γ2 b with
    | some (.int j) => (match rgB i j with
      | true => .ok (.own (.lst (rgD i (j - i).toNat))) γ2
      | false => .bad)
    | _ => .bad)
  | _ => .bad
theorem te_tupRg1 {m : Gam → Out Ar} {Q : VK} (h : tE G W (eTupRg1 m) σ H Q) : tTupRg (tRg1 (tO G W m)) σ H Q := by
  obtain ⟨HF, γ, k, p⟩ := h
  refine ⟨HF, γ, k, post_bind (r1 := rO G) p fun a γ1 x H1 HF1 k1 s1 r1 p1 => ?_⟩
  have p2 := post_from later_E s1 p1
  split at p2
  · rename_i j e
    split at p2
    · rename_i hb
      refine ⟨j, (look_pk k1 r1 e).int, rgB_ok hb, fun q n => ?_⟩
      exact br_fin (br := .newT (rgD 0 (j - 0).toNat)) k1 p2 ⟨q, _, rfl, n, rfl, rgD_rep _⟩
    · exact p2.elim
  · exact p2.elim
theorem te_lstRg2 {m1 m2 : Gam → Out Ar} {Q : VK} (h : tE G W (eLstRg2 m1 m2) σ H Q) : tLstRg (tRg2 (tO G W m1) (tO G W m2)) σ H Q := by
  obtain ⟨HF, γ, k, p⟩ := h
  refine ⟨HF, γ, k, post_bind (r1 := rO G) p fun a γ1 x H1 HF1 k1 s1 r1 p1 => ?_⟩
  refine ⟨HF1, γ1, k1, post_bind (r1 := rO G) (post_from later_E s1 p1) fun b γ2 y H2 HF2 k2 s2 r2 p2 => ?_⟩
  have p2 := post_from later_E s2 p2
  split at p2
  · rename_i i e
    split at p2
    · rename_i j e2
      split at p2
      · rename_i hb
        refine ⟨i, j, (look_pk k2 (ArOk.mono s2.mono r1) e).int, (look_pk k2 r2 e2).int, rgB_ok hb, fun q n => ?_⟩
        exact br_fin (br := .newL (rgD i (j - i).toNat)) k2 p2 ⟨q, _, rfl, n, rfl, rgD_rep _⟩
      · exact p2.elim
    · exact p2.elim
  · exact p2.elim
theorem tpe_tupRg1 {a : Expr} {p p2 pos pos2 : Pos} {m : Gam → Out Ar} (hc : X.calm = true) (hg : Gl X "tuple") (hm : X.mg "tuple" = none) (hg2 : Gl X "range") (hm2 : X.mg "range" = none) (ha : PE X a (tO G W m))
    (na : starEach [a] X.env = (false, eval a X.env) :: starEach [] X.env) (nb : starEach [.Call (.Name "range" p2) [a] [] pos2] X.env = (false, eval (.Call (.Name "range" p2) [a] [] pos2) X.env) :: starEach [] X.env) :
    PE X (.Call (.Name "tuple" p) [.Call (.Name "range" p2) [a] [] pos2] [] pos) (tE G W (eTupRg1 m)) :=
  ⟨fun pins s σ H Q I h => (pe_tupRg hc hg hm (prg_1 hg2 hm2 ha na) nb).run pins s σ H Q I (te_tupRg1 h)⟩
theorem tpe_lstRg2 {a b : Expr} {p p2 pos pos2 : Pos} {m1 m2 : Gam → Out Ar} (hc : X.calm = true) (hg : Gl X "list") (hm : X.mg "list" = none) (hg2 : Gl X "range") (hm2 : X.mg "range" = none) (ha : PE X a (tO G W m1)) (hb : PE X b (tO G W m2))
    (na : starEach [a, b] X.env = (false, eval a X.env) :: starEach [b] X.env) (nb : starEach [b] X.env = (false, eval b X.env) :: starEach [] X.env) (hp : (backTo pos2 (starEach [b] X.env)).any (·.1) = false)
    (nc : starEach [.Call (.Name "range" p2) [a, b] [] pos2] X.env = (false, eval (.Call (.Name "range" p2) [a, b] [] pos2) X.env) :: starEach [] X.env) :
    PE X (.Call (.Name "list" p) [.Call (.Name "range" p2) [a, b] [] pos2] [] pos) (tE G W (eLstRg2 m1 m2)) :=
  ⟨fun pins s σ H Q I h => (pe_listRg hc hg hm (prg_2 hg2 hm2 ha hb na nb hp) nc).run pins s σ H Q I (te_lstRg2 h)⟩
/-! {} -/
theorem tpe_dct {pos : Pos} : PE X (.Dict [] [] pos) (tE G W (eC (.dct []))) := ⟨fun pins s σ H Q I h => pe_dnewK.run pins s σ H Q I (by
  obtain ⟨HF, γ, k, p⟩ := h
  intro q n
  refine p (.ref q) _ _ (k.laidF n) (.laidF k n) ?_
  show Rep G (upd HF q (.dK [])) (.dct []) (.ref q)
  unfold Rep
  exact ⟨rfl, q, rfl, upd_same⟩)⟩
/-! t[::-1] -/
def eRev (m : Gam → Out Ar) : Gam → Out R := fun γ => (m γ).bind fun a γ1 => match look γ1 a with
  | some (.tup ds) => .ok (.fz (.tup ds.reverse)) γ1
  | _ => .bad
theorem RepL.reverse : ∀ {ds : List D} {xs : List V}, RepL G HF ds xs → RepL G HF ds.reverse xs.reverse
  | [], xs, h => by unfold RepL at h; subst h; exact .nil
  | d :: ds, xs, h => by
    unfold RepL at h
    obtain ⟨v, vs, rfl, r, q⟩ := h
    rw [List.reverse_cons, List.reverse_cons]
    exact RepL.append (RepL.reverse q) (.one r)
theorem tpe_rev {e : Expr} {k : Nat} {p1 p2 p3 pos : Pos} {m : Gam → Out Ar} (hK : G.K = X.K) (he : PE X e (tO G W m)) : PE X (.Subscript e (.Slice none none (some (.UnaryOp .USub (.Constant (.int 1) k p1) p2)) p3) pos) (tE G W (eRev m)) :=
  ⟨fun pins s σ H Q I h => (pe_revT he).run pins s σ H Q I (by
    obtain ⟨HF, γ, k, p⟩ := h
    refine ⟨HF, γ, k, post_bind (r1 := rO G) p fun a γ1 x H1 HF1 k1 s1 r1 p1 => ?_⟩
    have p2 := post_from later_E s1 p1
    split at p2
    · rename_i ds e
      obtain ⟨b, xs, rfl, h1, r⟩ := (look_pk k1 r1 e).tup k1.sub
      rw [hK] at h1
      exact ⟨b, xs, rfl, h1, fun q n => br_fin (br := .newT ds.reverse) k1 p2 ⟨q, _, rfl, n, rfl, RepL.reverse r⟩⟩
    · exact p2.elim)⟩
/-! x[i] = v -/
theorem tps_setIx {x : Nat} {o i e : Expr} {pos pos2 : Pos} {me mi : Gam → Out Ar} (ho : PE X o (tO G W (oSl x))) (hi : PE X i (tO G W mi)) (he : PE X e (tO G W me))
    (ha : ∀ v, assign (.Subscript o i pos2) X.env v = (do
      let ov ← holding [v] (eval o X.env)
      let iv ← holding [v, ov] (eval i X.env)
      standAt pos2
      holding [v, ov, iv] (setItem ov iv v)
      release [v, ov, iv] [])) (hs : swapsWithSole [.Subscript o i pos2] e pos.line X.env = pure false) (hw : swappedStores [.Subscript o i pos2] e X.env = pure none)
    (h1 : (assignEach [.Subscript o i pos2] X.env).map (·.2) = [assign (.Subscript o i pos2) X.env]) :
    PS X (.Assign [.Subscript o i pos2] e pos) (tS G W (sSetIx x me mi)) :=
  ⟨fun pins s σ H D I h => (ps_asg he (pg_sub ho hi set_list ha) hs hw h1).run pins s σ H D I (ts_setIx h)⟩
/-! a, b = e (a tuple) -/
def sAsg (m : Gam → Out Ar) (f : D → Gam → Option Gam) : Gam → OutS := fun γ => (m γ).toS fun a γ1 => match a with
  | .d d => nxO (f d γ1)
  | .sl _ => .bad
theorem tps_asg {S : List Nat} {tg e : Expr} {pos : Pos} {m : Gam → Out Ar} {f : D → Gam → Option Gam} (he : PE X e (tO G W m)) (hg : PG X tg (tgt G S f)) (hs : swapsWithSole [tg] e pos.line X.env = pure false) (hw : swappedStores [tg] e X.env = pure none)
    (h1 : (assignEach [tg] X.env).map (·.2) = [assign tg X.env]) : PS X (.Assign [tg] e pos) (tS G W (sAsg m f)) :=
  ⟨fun pins s σ H D I h => (ps_asg he hg hs hw h1).run pins s σ H D I (by
    obtain ⟨HF, γ, k, p⟩ := h
    refine ⟨HF, γ, k, postS_bind (r1 := rO G) p fun a γ1 v H1 HF1 k1 s1 r1 p1 => ?_⟩
    cases a with
    | sl i => exact p1.elim
    | d d =>
      refine ⟨HF1, γ1, d, k1, r1, ?_⟩
      cases q : f d γ1 with
      | none => simp only [q] at p1; exact p1.elim
      | some γ2 =>
        simp only [q] at p1
        exact fun σ' k2 s2 _ => postS_from s1 p1 σ' H1 HF1 k2 s2)⟩
end
/-! parallel stores -/
section
variable {X : Cx} {G : Tab} {W : Wt} {σ : L2.St} {H HF HF' : Hp} {γ : Gam} {E : Ends}
theorem ROk2.keep {σ0 : L2.St} {γ0 γ1 γ2 : Gam} {H0 H1 HF1 H2 HF2 : Hp} {r : R} {v : V} (h : ROk2 G σ0 γ0 H0 σ γ1 H1 HF1 r v) (s : Stp σ γ1 H1 HF1 σ γ2 H2 HF2) : ROk2 G σ0 γ0 H0 σ γ2 H2 HF2 r v := by
  cases r with
  | fz d => exact Rep.mono s.mono _ _ h
  | own d =>
    obtain ⟨a, e, o, no, w⟩ := h
    obtain ⟨u, eu, nu⟩ := o.at_
    obtain ⟨f1, f2⟩ := s.frame a (by rw [eu]; simp) no
    refine ⟨a, e, o.keep s.mono f1 (f2.trans nu), fun j q => ?_, w⟩
    rcases s.own j a q with ⟨i, z⟩ | z
    · exact no i z
    · rw [eu] at z; cases z
theorem store_res2 {σ0 : L2.St} {γ0 γ1 γ2 : Gam} {H0 HF0 H1 HF1 : Hp} {i : Nat} {r : R} {v : V} (k : Ok G σ H1 HF1 γ1) (s : Stp σ0 γ0 H0 HF0 σ γ1 H1 HF1) (rr : ROk2 G σ0 γ0 H0 σ γ1 H1 HF1 r v) (e : stG i r.sl γ1 = some γ2) :
    Ok G (σ.set i (some v)) H1 HF1 γ2 ∧ Stp σ0 γ0 H0 HF0 (σ.set i (some v)) γ2 H1 HF1 ∧ ∀ j a, OwnAt (σ.set i (some v)) γ2 j a → (j = i ∧ ∃ d, r = .own d ∧ v = .ref a) ∨ (j ≠ i ∧ OwnAt σ γ1 j a) := by
  obtain ⟨rfl, hi, t, et, nt⟩ := stG_some e
  have hσ : i < σ.length := by rw [k.len]; exact hi
  have ow : ∀ {j a}, OwnAt (σ.set i (some v)) (γ1.set i r.sl) j a → (j = i ∧ ∃ d, r = .own d ∧ v = .ref a) ∨ (j ≠ i ∧ OwnAt σ γ1 j a) := fun {j a} h => by
    rcases ownAt_set h with ⟨h1, h2, h3⟩ | h
    · cases r with
      | fz d => cases h2
      | own d => exact .inl ⟨h1, d, rfl, h3⟩
    · exact .inr h
  refine ⟨⟨k.sub, by rw [List.length_set, List.length_set]; exact k.len, fun j s' ej => ?_, fun j l a h1 h2 => ?_⟩, ⟨s.mono, s.frame, fun j b h => ?_, fun j s' ej w => ?_⟩, fun j a h => ow h⟩
  · rcases getE_set ej with ⟨rfl, rfl, _⟩ | ⟨n, ej⟩
    · rw [List.getElem?_set_self hσ]
      cases r with
      | fz d => exact ⟨v, rfl, rr⟩
      | own d =>
        obtain ⟨a, ea, o, _⟩ := rr
        exact ⟨a, by rw [ea]; rfl, o⟩
    · rw [List.getElem?_set_ne (Ne.symm n)]
      exact k.sl j s' ej
  · have q1 := ow h1
    have q2 := ow h2
    clear h1 h2
    rcases q1 with ⟨e1, d, ed, ev⟩ | ⟨n1, q1⟩
    · rcases q2 with ⟨e2, _⟩ | ⟨n2, q2⟩
      · exact e1.trans e2.symm
      · subst ed
        obtain ⟨b, eb, o, n, _⟩ := rr
        rw [ev] at eb
        cases eb
        exact absurd q2 (n l)
    · rcases q2 with ⟨e2, d, ed, ev⟩ | ⟨n2, q2⟩
      · subst ed
        obtain ⟨b, eb, o, n, _⟩ := rr
        rw [ev] at eb
        cases eb
        exact absurd q1 (n j)
      · exact k.dis j l a q1 q2
  · rcases ow h with ⟨rfl, d, rfl, rfl⟩ | ⟨n, h⟩
    · obtain ⟨c, ec, _, _, w⟩ := rr
      cases ec
      exact w.symm
    · exact s.own j b h
  · obtain ⟨⟨s1, e1, w1⟩, q⟩ := s.io j s' ej w
    have n : j ≠ i := fun z => by subst z; rw [et] at e1; cases e1; rw [nt] at w1; cases w1
    exact ⟨⟨s1, by rw [List.getElem?_set_ne (Ne.symm n)]; exact e1, w1⟩, by rw [List.getElem?_set_ne (Ne.symm n)]; exact q⟩
/-- two results apart from each other -/
def Apt (r1 : R) (v1 : V) (r2 : R) (v2 : V) : Prop := ∀ d1 d2, r1 = .own d1 → r2 = .own d2 → v1 ≠ v2
theorem apt_of {σ0 : L2.St} {γ0 γ1 γ2 : Gam} {H0 H1 HF1 H2 HF2 : Hp} {r1 r2 : R} {v1 v2 : V} (h1 : ROk2 G σ0 γ0 H0 σ γ1 H1 HF1 r1 v1) (h2 : ROk2 G σ γ1 H1 σ γ2 H2 HF2 r2 v2) : Apt r1 v1 r2 v2 := by
  rintro d1 d2 rfl rfl z
  obtain ⟨a, rfl, o, no, _⟩ := h1
  obtain ⟨b, rfl, _, _, w⟩ := h2
  cases z
  obtain ⟨u, eu, nu⟩ := o.at_
  rcases w with w | ⟨i, w⟩
  · rw [eu] at w; cases w
  · exact no i w
theorem ROk2.kept {σ0 σ' : L2.St} {γ0 γ1 γ2 : Gam} {H0 H1 HF1 : Hp} {r r1 : R} {v v1 : V} {i : Nat} (h : ROk2 G σ0 γ0 H0 σ γ1 H1 HF1 r v) (ap : Apt r1 v1 r v) (ow : ∀ j a, OwnAt σ' γ2 j a → (j = i ∧ ∃ d, r1 = .own d ∧ v1 = .ref a) ∨ (j ≠ i ∧ OwnAt σ γ1 j a)) : ROk2 G σ0 γ0 H0 σ' γ2 H1 HF1 r v := by
  cases r with
  | fz d => exact h
  | own d =>
    obtain ⟨a, e, o, no, w⟩ := h
    refine ⟨a, e, o, fun j q => ?_, w⟩
    rcases ow j a q with ⟨_, d1, e1, e2⟩ | ⟨_, q⟩
    · exact ap d1 d e1 rfl (e2.trans e.symm)
    · exact no j q
def sPar2 (i j : Nat) (m1 m2 : Gam → Out R) : Gam → OutS := fun γ => (m1 γ).toS fun r1 γ1 => (m2 γ1).toS fun r2 γ2 => match stG i r1.sl γ2 with
  | some γ3 => nxO (stG j r2.sl γ3)
  | none => .bad
theorem ts_par2 {i j : Nat} {m1 m2 : Gam → Out R} (h : tS G W (sPar2 i j m1 m2) E σ H) : tPar i j (tCons (tE G W m1) (tCons (tE G W m2) tNil)) E σ H := by
  obtain ⟨HF, γ, k, p⟩ := h
  refine ⟨HF, γ, k, postS_bind (r1 := rE G) p fun r1 γ1 v1 H1 HF1 k1 s1 q1 p1 => ?_⟩
  refine ⟨HF1, γ1, k1, ?_⟩
  cases em : m2 γ1 with
  | bad => rw [em] at p1; exact p1.elim
  | er x γ2 => rw [em] at p1; exact fun c d H' HF' k' s' rr => p1 c d σ H' HF' k' (s1.trans s') rr
  | ok r2 γ2 =>
  rw [em] at p1
  intro v2 H2 HF2 k2 s2 q2
  refine ⟨v1, v2, rfl, ?_⟩
  have q1' := ROk2.keep q1 s2
  have ap := apt_of q1 q2
  have q2' := ROk2.from s1 q2
  have p2 : postS G W σ γ H HF E (match stG i r1.sl γ2 with
    | some γ3 => nxO (stG j r2.sl γ3)
    | none => .bad) := p1
  cases e1 : stG i r1.sl γ2 with
  | none => rw [e1] at p2; exact p2.elim
  | some γ3 =>
    rw [e1] at p2
    obtain ⟨k3, s3, ow3⟩ := store_res2 k2 (s1.trans s2) q1' e1
    cases e2 : stG j r2.sl γ3 with
    | none => simp only [e2] at p2; exact p2.elim
    | some γ4 =>
      simp only [e2] at p2
      obtain ⟨k4, s4, ow4⟩ := store_res2 k3 s3 (ROk2.kept q2' ap ow3) e2
      exact p2 _ H2 HF2 k4 s4
theorem tps_par2 {i j : Nat} {x y : Str} {a b : Expr} {px py pt : Pos} {kt k2 pt2} {pos : Pos} {m1 m2 : Gam → Out R} (hc : X.calm = true) (hN : X.N.Nodup) (hi : X.N[i]? = some x) (hj : X.N[j]? = some y) (hij : i ≠ j)
    (hx : X.env.scope.names.lookup x = some .local) (hy : X.env.scope.names.lookup y = some .local) (ha : PE X a (tE G W m1)) (hb : PE X b (tE G W m2))
    (na : starEach [a, b] X.env = (false, eval a X.env) :: starEach [b] X.env) (nb : starEach [b] X.env = (false, eval b X.env) :: starEach [] X.env)
    (hw : swappedStores [.Tuple [.Name x px, .Name y py] kt pt] (.Tuple [a, b] k2 pt2) X.env = pure (some [x, y]))
    (hs : swapsWithSole [.Tuple [.Name x px, .Name y py] kt pt] (.Tuple [a, b] k2 pt2) pos.line X.env = pure false) :
    PS X (.Assign [.Tuple [.Name x px, .Name y py] kt pt] (.Tuple [a, b] k2 pt2) pos) (tS G W (sPar2 i j m1 m2)) :=
  ⟨fun pins s σ H D I h => (ps_par hc hN hi hj hij hx hy (pa_cons ha (pa_cons hb pa_nil nb) na) hw hs).run pins s σ H D I (ts_par2 h)⟩
def sPar3 (i j l : Nat) (m1 m2 m3 : Gam → Out R) : Gam → OutS := fun γ => (m1 γ).toS fun r1 γ1 => (m2 γ1).toS fun r2 γ2 => (m3 γ2).toS fun r3 γ3 => match stG i r1.sl γ3 with
  | some γ4 => (match stG j r2.sl γ4 with
    | some γ5 => nxO (stG l r3.sl γ5)
    | none => .bad)
  | none => .bad
theorem ts_par3 {i j l : Nat} {m1 m2 m3 : Gam → Out R} (h : tS G W (sPar3 i j l m1 m2 m3) E σ H) : tPar3 i j l (tCons (tE G W m1) (tCons (tE G W m2) (tCons (tE G W m3) tNil))) E σ H := by
  obtain ⟨HF, γ, k, p⟩ := h
  refine ⟨HF, γ, k, postS_bind (r1 := rE G) p fun r1 γ1 v1 H1 HF1 k1 s1 q1 p1 => ?_⟩
  refine ⟨HF1, γ1, k1, ?_⟩
  cases em : m2 γ1 with
  | bad => rw [em] at p1; exact p1.elim
  | er x γ2 => rw [em] at p1; exact fun c d H' HF' k' s' rr => p1 c d σ H' HF' k' (s1.trans s') rr
  | ok r2 γ2 =>
  rw [em] at p1
  intro v2 H2 HF2 k2 s2 q2
  refine ⟨HF2, γ2, k2, ?_⟩
  have p1' : postS G W σ γ H HF E ((m3 γ2).toS fun r3 γ3 => match stG i r1.sl γ3 with
    | some γ4 => (match stG j r2.sl γ4 with
      | some γ5 => nxO (stG l r3.sl γ5)
      | none => .bad)
    | none => .bad) := p1
  cases em3 : m3 γ2 with
  | bad => rw [em3] at p1'; exact p1'.elim
  | er x γ3 => rw [em3] at p1'; exact fun c d H' HF' k' s' rr => p1' c d σ H' HF' k' ((s1.trans s2).trans s') rr
  | ok r3 γ3 =>
  rw [em3] at p1'
  intro v3 H3 HF3 k3 s3 q3
  refine ⟨v1, v2, v3, rfl, ?_⟩
  have q1' := ROk2.keep q1 (s2.trans s3)
  have q2' := ROk2.from s1 (ROk2.keep q2 s3)
  have q3' := ROk2.from (s1.trans s2) q3
  have ap12 := apt_of q1 q2
  have ap13 := apt_of (ROk2.keep q1 s2) q3
  have ap23 := apt_of q2 q3
  have p2 : postS G W σ γ H HF E (match stG i r1.sl γ3 with
    | some γ4 => (match stG j r2.sl γ4 with
      | some γ5 => nxO (stG l r3.sl γ5)
      | none => .bad)
    | none => .bad) := p1'
  cases e1 : stG i r1.sl γ3 with
  | none => rw [e1] at p2; exact p2.elim
  | some γ4 =>
    rw [e1] at p2
    obtain ⟨k4, s4, ow4⟩ := store_res2 k3 ((s1.trans s2).trans s3) q1' e1
    cases e2 : stG j r2.sl γ4 with
    | none => simp only [e2] at p2; exact p2.elim
    | some γ5 =>
      simp only [e2] at p2
      obtain ⟨k5, s5, ow5⟩ := store_res2 k4 s4 (ROk2.kept q2' ap12 ow4) e2
      cases e3 : stG l r3.sl γ5 with
      | none => simp only [e3] at p2; exact p2.elim
      | some γ6 =>
        simp only [e3] at p2
        obtain ⟨k6, s6, ow6⟩ := store_res2 k5 s5 (ROk2.kept (ROk2.kept q3' ap13 ow4) ap23 ow5) e3
        exact p2 _ H3 HF3 k6 s6
theorem tps_par3 {i j l : Nat} {x y z : Str} {a b c : Expr} {px py pz pt : Pos} {kt k2 pt2} {pos : Pos} {m1 m2 m3 : Gam → Out R} (hc : X.calm = true) (hN : X.N.Nodup) (hi : X.N[i]? = some x) (hj : X.N[j]? = some y) (hl : X.N[l]? = some z) (hij : i ≠ j) (hil : i ≠ l) (hjl : j ≠ l)
    (hx : X.env.scope.names.lookup x = some .local) (hy : X.env.scope.names.lookup y = some .local) (hz : X.env.scope.names.lookup z = some .local) (ha : PE X a (tE G W m1)) (hb : PE X b (tE G W m2)) (hc3 : PE X c (tE G W m3))
    (na : starEach [a, b, c] X.env = (false, eval a X.env) :: starEach [b, c] X.env) (nb : starEach [b, c] X.env = (false, eval b X.env) :: starEach [c] X.env) (nc : starEach [c] X.env = (false, eval c X.env) :: starEach [] X.env)
    (hw : swappedStores [.Tuple [.Name x px, .Name y py, .Name z pz] kt pt] (.Tuple [a, b, c] k2 pt2) X.env = pure (some [x, y, z]))
    (hs : swapsWithSole [.Tuple [.Name x px, .Name y py, .Name z pz] kt pt] (.Tuple [a, b, c] k2 pt2) pos.line X.env = pure false) :
    PS X (.Assign [.Tuple [.Name x px, .Name y py, .Name z pz] kt pt] (.Tuple [a, b, c] k2 pt2) pos) (tS G W (sPar3 i j l m1 m2 m3)) :=
  ⟨fun pins s σ H D I h => (ps_par3 hc hN hi hj hl hij hil hjl hx hy hz (pa_cons ha (pa_cons hb (pa_cons hc3 pa_nil nc) nb) na) hw hs).run pins s σ H D I (ts_par3 h)⟩
end
end T

-- text T20
set_option Elab.async false
set_option linter.all false
set_option maxRecDepth 100000
set_option maxHeartbeats 4000000
namespace T
open PySem L2
section
variable {X : Cx} {G : Tab} {W : Wt} {σ : L2.St} {H HF HF' : Hp} {γ : Gam} {E : Ends}
def rLs (G : Tab) : RelK (List D) (List V) := fun _ _ _ _ _ HF' ds xs => RepL G HF' ds xs
theorem later_Ls {G : Tab} : Later (rLs G) := ⟨fun h1 h2 => h2⟩
/-- a generator def's promise -/
def spG (G : Tab) (n : Nat) (F : Gam → Out (List D)) : SpG := fun vs H Q E => vs.length = n ∧ ∃ HF as, Ok G (vs.map some) H HF as ∧ as.all okArg = true ∧ post (rLs G) G (fun cls d _ H' => E cls d H') (vs.map some) as H HF Q (F as)
/-- what the turns hand out -/
def genGo (f : D → Gam → Option Gam) (y : Gam → Out R) : List D → List D → Gam → Out (List D)
  | [], acc, γ => .ok acc γ
  | d :: ds, acc, γ => match f d γ with
    | some γ1 => (match y γ1 with
      | .ok (.fz e) γ2 => (match Nat.blt acc.length 16777216 with
        | true => genGo f y ds (acc ++ [e]) γ2
        | false => .bad)
      | _ => .bad)
    | none => .bad
def fnG (m : Nat) (pre : Gam → OutS) (mi : Gam → Out (List D)) (f : D → Gam → Option Gam) (y : Gam → Out R) : Gam → Out (List D) := fun as => match pre (as ++ List.replicate m .un) with
  | .nx γ => (match mi γ with
    | .ok items γ1 => (match genGo f y items [] γ1 with
      | .ok out γ2 => .ok out (ioOut as γ2)
      | _ => .bad)
    | _ => .bad)
  | _ => .bad
/-- THE RULE for a body: statements, then for x in e: yield y -/
def tGen (G : Tab) (W : Wt) (S : List Nat) (pre : Gam → OutS) (mi : Gam → Out (List D)) (f : D → Gam → Option Gam) (y : Gam → Out R) : TGn :=
  tGThen (tPlain (tS G W pre)) (tGThen (tGFor (tI G W mi) (tgt G S f) (tGThen (tGYield (tE G W y)) tG0)) tG0)
theorem gen_reads {m : Nat} {S : List Nat} {pre : Gam → OutS} {mi : Gam → Out (List D)} {f : D → Gam → Option Gam} {y : Gam → Out R} {n : Nat} {N : List Str} (hN : N.length = n + m) (vs : List V) (Q : List V → Hp → Prop) (E' : XK) (h : spG G n (fnG m pre mi f y) vs H Q E') :
    tGen G (fun cls d _ H' => E' cls d H') S pre mi f y { nx := fun ys _ H' => Q ys H', rt := fun ys v H' => v = .non ∧ Q ys H' } [] (L2.start N vs) H := by
  obtain ⟨hn, HF, as, k, oa, p⟩ := h
  have es : L2.start N vs = vs.map some ++ List.replicate m none := by
    unfold L2.start
    rw [hN, hn, Nat.add_sub_cancel_left]
  rw [es]
  have hl : vs.length = as.length := by simpa using k.len
  refine ⟨HF, as ++ List.replicate m .un, entry_ok k, ?_⟩
  unfold fnG at p
  cases e : pre (as ++ List.replicate m .un) with
  | bad => rw [e] at p; exact p.elim
  | bk γ => rw [e] at p; exact p.elim
  | ct γ => rw [e] at p; exact p.elim
  | rt r γ => rw [e] at p; exact p.elim
  | er x γ => rw [e] at p; exact p.elim
  | nx γ =>
  rw [e] at p
  simp only at p
  intro σ1 H1 HF1 k1 s1
  cases e2 : mi γ with
  | bad => rw [e2] at p; exact p.elim
  | er x γ => rw [e2] at p; exact p.elim
  | ok items γ1 =>
  rw [e2] at p
  simp only at p
  refine ⟨HF1, γ, k1, ?_⟩
  rw [e2]
  intro J H2 HF2 k2 s2 wk
  have s02 := s1.trans s2
  refine ⟨fun i m' ys σ' H' => m' = items.length - i ∧ i ≤ items.length ∧ ∃ HF' γ' acc, Ok G σ' H' HF' γ' ∧ Sub HF2 HF' ∧ Stp (vs.map some ++ List.replicate m none) (as ++ List.replicate m .un) H HF σ' γ' H' HF' ∧ RepL G HF' acc ys ∧
    post (rLs G) G (fun cls d _ H' => E' cls d H') (vs.map some) as H HF Q (match genGo f y (items.drop i) acc γ' with
      | .ok out γ2 => .ok out (ioOut as γ2)
      | _ => .bad), ⟨_, rfl, Nat.zero_le _, HF2, γ1, [], k2, Sub.refl _, s02, .nil, p⟩, ?_⟩
  rintro i m' ys σ' H' ⟨rfl, hi, HF', γ', acc, k', mm', s', ra, p'⟩
  obtain ⟨w1, w2⟩ := wk HF' H' mm' k'.sub
  by_cases hlt : i < items.length
  · refine .inr ⟨(w1 i hlt).1, fun ys3 σ3 H3 => i + 1 ≤ items.length ∧ ∃ HF3 γ3 acc3, Ok G σ3 H3 HF3 γ3 ∧ Sub HF2 HF3 ∧ Stp (vs.map some ++ List.replicate m none) (as ++ List.replicate m .un) H HF σ3 γ3 H3 HF3 ∧ RepL G HF3 acc3 ys3 ∧
      post (rLs G) G (fun cls d _ H' => E' cls d H') (vs.map some) as H HF Q (match genGo f y (items.drop (i + 1)) acc3 γ3 with
        | .ok out γ2 => .ok out (ioOut as γ2)
        | _ => .bad), fun ys3 σ3 H3 q => ⟨items.length - (i + 1), by omega, rfl, q⟩, fun x H'' yy => ?_⟩
    obtain ⟨d, ed, y2⟩ := (w1 i hlt).2 x H'' yy
    obtain ⟨HF3, k3, s3, r3⟩ := yld_ok k' y2
    rw [drop_of hlt ed] at p'
    unfold genGo at p'
    refine ⟨HF3, γ', d, k3, r3, ?_⟩
    cases q : f d γ' with
    | none => rw [q] at p'; exact p'.elim
    | some γ4 =>
      rw [q] at p'
      simp only at p'
      intro σ4 k4 s4 _
      cases qy : y γ4 with
      | bad => rw [qy] at p'; exact p'.elim
      | er x γ5 => rw [qy] at p'; exact p'.elim
      | ok r γ5 =>
        cases r with
        | own d' => rw [qy] at p'; exact p'.elim
        | fz e' =>
          rw [qy] at p'
          simp only at p'
          cases qb : Nat.blt acc.length 16777216 with
          | false => rw [qb] at p'; exact p'.elim
          | true =>
            rw [qb] at p'
            simp only at p'
            refine ⟨by rw [ra.length, size_line]; exact blt_of qb, HF3, γ4, k4, ?_⟩
            rw [qy]
            intro v5 H5 HF5 k5 s5 rr
            have s35 := (s3.trans s4).trans s5
            exact ⟨hlt, HF5, γ5, acc ++ [e'], k5, mm'.trans s35.mono, s'.trans s35, RepL.append (RepL.mono s35.mono _ _ ra) (.one rr), p'⟩
  · have ei : i = items.length := by omega
    subst ei
    refine .inl ⟨w2, ?_⟩
    rw [List.drop_length] at p'
    unfold genGo at p'
    obtain ⟨a1, a2, _⟩ := exit_ok k oa k' s'
    exact p' ys H' HF' a1 a2 ra
/-- list(f(..)), f a generator def -/
def eListG (n : Nat) (F : Gam → Out (List D)) (ms : Gam → Out (List Ar)) : Gam → Out R := fun γ => (ms γ).bind fun ars γ1 => match Nat.beq ars.length n && disA ars with
  | true => (match mkArgs γ1 ars with
    | some as => (match F as with
      | .ok out as' => .ok (.own (.lst out)) (putArgs γ1 ars as')
      | _ => .bad)
    | none => .bad)
  | false => .bad
theorem te_listG {n : Nat} {F : Gam → Out (List D)} {ms : Gam → Out (List Ar)} {Q : VK} (h : tE G W (eListG n F ms) σ H Q) : tListG (tCallG (spG G n F) [] L2.E0 (tA G W ms)) σ H Q := by
  obtain ⟨HF, γ, k, p⟩ := h
  refine ⟨HF, γ, k, post_bind (r1 := rA G) p fun ars γ1 vs H1 HF1 k1 s1 r1 p1 => ?_⟩
  have p1 := post_from later_E s1 p1
  rw [List.append_nil]
  cases hn : Nat.beq ars.length n && disA ars with
  | false => rw [hn] at p1; exact p1.elim
  | true =>
  rw [hn] at p1
  obtain ⟨hb, hd⟩ := Bool.and_eq_true_iff.mp hn
  simp only at p1
  cases hm : mkArgs γ1 ars with
  | none => rw [hm] at p1; exact p1.elim
  | some as =>
  rw [hm] at p1
  simp only at p1
  obtain ⟨ka, oa, ow⟩ := args_ok k1 r1 hm hd
  refine ⟨by rw [arsOk_len r1]; exact Nat.eq_of_beq_eq_true hb, HF1, as, ka, oa, ?_⟩
  cases ef : F as with
  | bad => rw [ef] at p1; exact p1.elim
  | er x as' => rw [ef] at p1; exact p1.elim
  | ok out as' =>
    rw [ef] at p1
    intro xs H2 HF2 k2 s2 rr
    obtain ⟨b1, b2, b3, b4⟩ := args_back k1 r1 hm hd k2 s2
    intro q nq
    exact br_fin (br := .newL out) b1 (post_from later_E b2 p1) ⟨q, xs, rfl, nq, rfl, rr⟩
theorem pass0E {X : Cx} : Passes (CX X.prog X.w) X L2.E0 := fun _ _ _ _ _ _ _ c => by
  obtain ⟨a, B, H', cls, d, z1, fl, z2, ub, z3, z4, z5, z6⟩ := c
  exact z6.elim
theorem tpe_listG {k n : Nat} {f : Addr} {fd : FuncData} {ps : List Str} {F : Gam → Out (List D)} {x : Str} {p p2 pos pos2 : Pos} {e : Expr} {es : List Expr} {ms : Gam → Out (List Ar)} (FO : GFn X.prog X.w X.K X.mg X.base k f fd ps (spG G n F)) (hr : Room k X.A) (hr3 : Room (k + 3) X.A) (hg : Gl X x) (hm : X.mg x = some (.ref f)) (hk : PySem.W.keepIn X.K (.ref f) = true) (hb : Binds X.K fd ps [])
    (hgl : Gl X "list") (hml : X.mg "list" = none) (ha : PA X (e :: es) (tA G W ms)) (hdb : (x == ("__debug__" : Str)) = false) (he : starEach (e :: es) X.env = (false, eval e X.env) :: starEach es X.env) (hpl : (backTo pos2 (starEach es X.env)).any (·.1) = false)
    (hl : starEach [.Call (.Name x p2) (e :: es) [] pos2] X.env = (false, eval (.Call (.Name x p2) (e :: es) [] pos2) X.env) :: starEach [] X.env) :
    PE X (.Call (.Name "list" p) [.Call (.Name x p2) (e :: es) [] pos2] [] pos) (tE G W (eListG n F ms)) :=
  ⟨fun pins s σ H Q I h => (pe_listG (pgen_call FO hr hg hm hk hb .nil ha hdb he hpl) pass0E (fun _ _ _ z => z.elim) hr3 hgl hml rfl (by decide) (by decide) hl).run pins s σ H Q I (te_listG h)⟩
theorem gss_gen {S : List Nat} {st : Stmt} {tg iter : Expr} {e : Expr} {pos p1 p2 : Pos} {pre : Gam → OutS} {mi : Gam → Out (List D)} {f : D → Gam → Option Gam} {y : Gam → Out R} (hp : PassesOwn (model X.prog X.w) X.A X.env X.xe) (hcalm : X.calm = true)
    (h1 : PS X st (tS G W pre)) (hi : PI X tg iter (tI G W mi)) (hg : PG X tg (tgt G S f)) (hy : PE X e (tE G W y)) (hfs : ∀ x, foldedSetIterable iter X.env x = pure x) (hco : X.env.scope.isCoroutine = false) (hin : interactive X.env = false) :
    GSs X [st, .For tg iter [.Expr (.Yield (some e) p1) p2] [] pos] (tGen G W S pre mi f y) :=
  gss_cons (gs_ps h1) (gss_cons (gs_for hp hcalm hi hg (gss_cons (gs_yield hy hco hin) gss_nil) hfs) gss_nil)
end
end T

-- text T21
set_option Elab.async false
set_option linter.all false
set_option maxRecDepth 100000
set_option maxHeartbeats 4000000
namespace T
open PySem L2 PyProof.Rows
section
variable {X : Cx} {G : Tab} {W : Wt}
theorem rd (i : Nat) {x : Str} {pos : Pos} (hN : X.N[i]? = some x := by rfl) (hv : Vis X.env.scope x := by first | exact Or.inl rfl | exact Or.inr (Or.inl rfl) | exact Or.inr (Or.inr rfl)) (hd : (x == ("__debug__" : Str)) = false := by decide) (hcd : (x == ("__classdict__" : Str)) = false := by decide) : PE X (.Name x pos) (tE G W (eRd i)) := te_rd hN hv hd hcd
theorem mv (i : Nat) {x : Str} {pos : Pos} (hN : X.N[i]? = some x := by rfl) (hv : Vis X.env.scope x := by first | exact Or.inl rfl | exact Or.inr (Or.inl rfl) | exact Or.inr (Or.inr rfl)) (hd : (x == ("__debug__" : Str)) = false := by decide) (hcd : (x == ("__classdict__" : Str)) = false := by decide) : PE X (.Name x pos) (tE G W (eMv i)) := te_mv hN hv hd hcd
theorem sl (i : Nat) {x : Str} {pos : Pos} (hN : X.N[i]? = some x := by rfl) (hv : Vis X.env.scope x := by first | exact Or.inl rfl | exact Or.inr (Or.inl rfl) | exact Or.inr (Or.inr rfl)) (hd : (x == ("__debug__" : Str)) = false := by decide) (hcd : (x == ("__classdict__" : Str)) = false := by decide) : PE X (.Name x pos) (tO G W (oSl i)) := to_sl hN hv hd hcd
theorem cI {i : Int} {j : Nat} {pos : Pos} : PE X (.Constant (.int i) j pos) (tE G W (eC (.int i))) := tpe_c pe_int rfl
theorem cB {b : Bool} {j : Nat} {pos : Pos} : PE X (.Constant (.bool b) j pos) (tE G W (eC (.bl b))) := tpe_c pe_bl rfl
theorem cN {j : Nat} {pos : Pos} : PE X (.Constant .none j pos) (tE G W (eC .non)) := tpe_c pe_non rfl
theorem cS {x : Str} {j : Nat} {pos : Pos} : PE X (.Constant (.str x) j pos) (tE G W (eC (.str x))) := tpe_c pe_str rfl
theorem gI {x : Str} {i : Int} {pos : Pos} (hm : ∃ t, X.mg x = some (.int i t)) (hg : Gl X x := by rfl) (hd : (x == ("__debug__" : Str)) = false := by decide) : PE X (.Name x pos) (tE G W (eC (.int i))) := by
  obtain ⟨t, hm⟩ := hm
  exact tpe_c (v := .int i) (pe_glob hg hm ⟨t, rfl⟩ hd) rfl
theorem bT {x : Str} {n : String} {pos : Pos} (hm : X.mg x = none) (hv : bootBuiltins x = some (.type n)) (hg : Gl X x := by rfl) (hn : x ≠ "__name__" := by decide) (hd : (x == ("__debug__" : Str)) = false := by decide) : PE X (.Name x pos) (tE G W (eC (.ty n))) := tpe_c (v := .ty n) (pe_bltn hg hm hv rfl hn hd) rfl
theorem a1 {e : Expr} {es : List Expr} {m : Gam → Out Ar} {ms : Gam → Out (List Ar)} (ha : PE X e (tO G W m)) (hr : PA X es (tA G W ms)) (hs : starEach (e :: es) X.env = (false, eval e X.env) :: starEach es X.env := by rfl) : PA X (e :: es) (tA G W (aCons m ms)) := tpa_cons ha hr hs
theorem aS {e : Expr} {es : List Expr} {p : Pos} {m : Gam → Out Ar} {ms : Gam → Out (List Ar)} (hK : G.K = X.K) (he : PE X e (tO G W m)) (hr : PA X es (tA G W ms)) (hs : starEach (.Starred e p :: es) X.env = (true, eval e X.env) :: starEach es X.env := by rfl) : PA X (.Starred e p :: es) (tA G W (aStar m ms)) := tpa_star hK he hr hs
theorem cb {id : String} {x : Str} {p pos : Pos} {e : Expr} {es : List Expr} {r : List V → Hp → VK → Prop} {f : List D → Option BR} {ms : Gam → Out (List Ar)} (hc : CallR X (.builtin id) r) (F : CallOk G r f) (hm : X.mg x = none) (hv : bootBuiltins x = some (.builtin id)) (ha : PA X (e :: es) (tA G W ms)) (hg : Gl X x := by rfl) (hn : x ≠ "__name__" := by decide) (hdb : (x == ("__debug__" : Str)) = false := by decide)
    (he : starEach (e :: es) X.env = (false, eval e X.env) :: starEach es X.env := by rfl) (hpl : (backTo pos (starEach es X.env)).any (·.1) = false := by rfl) : PE X (.Call (.Name x p) (e :: es) [] pos) (tE G W (eCall f ms)) := tpe_callB hc F hg hm hv ha hn hdb he hpl
theorem ct {id : String} {x : Str} {p pos : Pos} {e : Expr} {es : List Expr} {r : List V → Hp → VK → Prop} {f : List D → Option BR} {ms : Gam → Out (List Ar)} (hc : CallR X (.type id) r) (F : CallOk G r f) (hm : X.mg x = none) (hv : bootBuiltins x = some (.type id)) (ha : PA X (e :: es) (tA G W ms)) (hg : Gl X x := by rfl) (hn : x ≠ "__name__" := by decide) (hdb : (x == ("__debug__" : Str)) = false := by decide)
    (he : starEach (e :: es) X.env = (false, eval e X.env) :: starEach es X.env := by rfl) (hpl : (backTo pos (starEach es X.env)).any (·.1) = false := by rfl) : PE X (.Call (.Name x p) (e :: es) [] pos) (tE G W (eCall f ms)) := tpe_callTy hc F hg hm hv ha hn hdb he hpl
theorem cu {k j n : Nat} {f : Addr} {fd : FuncData} {ps : List Str} {F : Gam → Out R} {x : Str} {p pos : Pos} {e : Expr} {es : List Expr} {ms : Gam → Out (List Ar)} (FO : FnOk X.prog X.w X.K X.mg X.base CX0 k f fd ps (spT G n F)) (hr : Room j X.A) (hm : X.mg x = some (.ref f)) (hk : PySem.W.keepIn X.K (.ref f) = true) (hb : Binds X.K fd ps [])
    (ha : PA X (e :: es) (tA G W ms)) (hj : k ≤ j := by decide) (hg : Gl X x := by rfl) (hdb : (x == ("__debug__" : Str)) = false := by decide) (he : starEach (e :: es) X.env = (false, eval e X.env) :: starEach es X.env := by rfl) (hpl : (backTo pos (starEach es X.env)).any (·.1) = false := by rfl) : PE X (.Call (.Name x p) (e :: es) [] pos) (tE G W (eCallN n F ms)) :=
  tpe_callN FO (hr.mono hj) hg hm hk hb ha hdb he hpl
theorem cg {k j n : Nat} {f : Addr} {fd : FuncData} {ps : List Str} {F : Gam → Out (List D)} {x : Str} {p p2 pos pos2 : Pos} {e : Expr} {es : List Expr} {ms : Gam → Out (List Ar)} (FO : GFn X.prog X.w X.K X.mg X.base k f fd ps (spG G n F)) (hr : Room j X.A) (hm : X.mg x = some (.ref f)) (hk : PySem.W.keepIn X.K (.ref f) = true) (hb : Binds X.K fd ps []) (hml : X.mg "list" = none)
    (ha : PA X (e :: es) (tA G W ms)) (hj : k + 3 ≤ j := by decide) (hg : Gl X x := by rfl) (hgl : Gl X "list" := by rfl) (hdb : (x == ("__debug__" : Str)) = false := by decide) (he : starEach (e :: es) X.env = (false, eval e X.env) :: starEach es X.env := by rfl) (hpl : (backTo pos2 (starEach es X.env)).any (·.1) = false := by rfl)
    (hl : starEach [.Call (.Name x p2) (e :: es) [] pos2] X.env = (false, eval (.Call (.Name x p2) (e :: es) [] pos2) X.env) :: starEach [] X.env := by rfl) :
    PE X (.Call (.Name "list" p) [.Call (.Name x p2) (e :: es) [] pos2] [] pos) (tE G W (eListG n F ms)) := tpe_listG FO (hr.mono (by omega)) (hr.mono hj) hg hm hk hb hgl hml ha hdb he hpl hl
theorem cm {op : CmpOp} {r : R2} {f : D → D → Option BR} {a b : Expr} {pos : Pos} {ma mb : Gam → Out Ar} (ho : OpR X (compareOp op) r) (F : OpOk G r f) (ha : PE X a (tO G W ma)) (hb : PE X b (tO G W mb)) (hm : behindInMarks op b = false := by first | rfl | exact nomark _) : PE X (.Compare a [op] [b] pos) (tE G W (eOp f ma mb)) := tpe_cmp ho F ha hb hm
theorem cmT {op : CmpOp} {r : R2} {f : D → D → Option BR} {a b : Expr} {pos : Pos} {ma mb : Gam → Out Ar} (ho : OpR X (compareOp op) r) (F : OpOk G r f) (ha : PE X a (tO G W ma)) (hb : PE X b (tO G W mb)) (hm : behindInMarks op b = false := by first | rfl | exact nomark _) : PT X (.Compare a [op] [b] pos) (tT G W (toT (eOp f ma mb))) := tpt_cmp ho F ha hb hm
theorem ch {op op' : CmpOp} {r r' : R2} {f f' : D → D → Option BR} {a b c : Expr} {pos : Pos} {ma mb mc : Gam → Out Ar} (ho : OpR X (compareOp op) r) (ho' : OpR X (compareOp op') r') (F : OpOk G r f) (F' : OpOk G r' f') (ha : PE X a (tO G W ma)) (hb : PE X b (tO G W mb)) (hc : PE X c (tO G W mc)) (hm : lastMarks [op, op'] [b, c] = false := by rfl) : PE X (.Compare a [op, op'] [b, c] pos) (tE G W (eChain f f' ma mb mc)) := tpe_chain ho ho' F F' ha hb hc hm
theorem chT {op op' : CmpOp} {r r' : R2} {f f' : D → D → Option BR} {a b c : Expr} {pos : Pos} {ma mb mc : Gam → Out Ar} (ho : OpR X (compareOp op) r) (ho' : OpR X (compareOp op') r') (F : OpOk G r f) (F' : OpOk G r' f') (ha : PE X a (tO G W ma)) (hb : PE X b (tO G W mb)) (hc : PE X c (tO G W mc)) (hm : lastMarks [op, op'] [b, c] = false := by rfl) : PT X (.Compare a [op, op'] [b, c] pos) (tT G W (toT (eChain f f' ma mb mc))) := tpt_chain ho ho' F F' ha hb hc hm
theorem tv {e : Expr} {m : Gam → Out R} (h : PE X e (tE G W m)) (he : ∀ whole, isTrue e X.env whole = (do let v ← whole; standAt e.pos; holding [v] (truthy v)) := by intro _; rfl) : PT X e (tT G W (toT m)) := tpt_val h he
theorem stv (i : Nat) {x : Str} {e : Expr} {pos pos' : Pos} {m : Gam → Out R} (hN : X.N.Nodup) (he : PE X e (tE G W m)) (hi : X.N[i]? = some x := by rfl) (hx : Loc X.env.scope x := by first | exact Or.inl rfl | exact Or.inr rfl) (hs : swapsWith e (some (.Name x pos')) pos.line X.env = pure false := by rfl) (hf : X.fn x = true ∨ X.env.scope.names.lookup x = some .local := by first | exact Or.inl rfl | exact Or.inr rfl) :
    PS X (.Assign [.Name x pos'] e pos) (tS G W (sSet i m)) := tps_set hN hi hx he hs hf
theorem sx {e : Expr} {pos : Pos} {m : Gam → Out R} (he : PE X e (tE G W m)) (hs : swapsWith e none pos.line X.env = pure false := by rfl) : PS X (.Expr e pos) (tS G W (sExpr m)) := tps_expr he hs
theorem gn (i : Nat) {x : Str} {pos : Pos} (hN : X.N.Nodup) (hi : X.N[i]? = some x := by rfl) (hx : Loc X.env.scope x := by first | exact Or.inl rfl | exact Or.inr rfl) (hf : X.fn x = true ∨ X.env.scope.names.lookup x = some .local := by first | exact Or.inl rfl | exact Or.inr rfl) : PG X (.Name x pos) (tgt G [i] (gNm i)) := tpg_name hN hi hx hf
theorem gc {S S' : List Nat} {e : Expr} {es : List Expr} {f : D → Gam → Option Gam} {g : List D → Gam → Option Gam} (h1 : PG X e (tgt G S f)) (h2 : PGs X es (tgts G S' g)) (hs : (assignEach (e :: es) X.env).map (·.2) = assign e X.env :: (assignEach es X.env).map (·.2) := by rfl) : PGs X (e :: es) (tgts G (S ++ S') (gsCons f g)) := tpgs_cons h1 h2 hs
theorem gt {S : List Nat} {es : List Expr} {kk n : Nat} {pos : Pos} {f : List D → Gam → Option Gam} (hK : G.K = X.K) (hc : X.calm = true) (h : PGs X es (tgts G S f)) (hn : (assignEach es X.env).length = n := by rfl) (hst : (assignEach es X.env).findIdx? (·.1) = none := by rfl) : PG X (.Tuple es kk pos) (tgt G S (gTp n f)) := tpg_tup hK hc h hn hst
theorem fr {S : List Nat} {tg iter : Expr} {body : List Stmt} {pos : Pos} {mi : Gam → Out (List D)} {f : D → Gam → Option Gam} {b : Gam → OutS} (hp : PassesOwn (model X.prog X.w) X.A X.env X.xe) (hc : X.calm = true) (hi : PI X tg iter (tI G W mi)) (hg : PG X tg (tgt G S f)) (hb : PSs X body (tS G W b))
    (hs : ∀ x, foldedSetIterable iter X.env x = pure x := by intro _; rfl) : PS X (.For tg iter body [] pos) (tS G W (sFor mi f b)) := tps_for hp hc hi hg hb hs
theorem r1 {tg a : Expr} {ms : Gam → Out (List Ar)} {p pos : Pos} (hm : X.mg "range" = none) (ha : PA X [a] (tA G W ms)) (hg : Gl X "range" := by rfl) (hs : starEach [a] X.env = [(false, eval a X.env)] := by rfl) : PI X tg (.Call (.Name "range" p) [a] [] pos) (tI G W (mRng1 ms)) := tpi_range1 hg hm ha hs
theorem r2 {tg a b : Expr} {ms : Gam → Out (List Ar)} {p pos : Pos} (hm : X.mg "range" = none) (ha : PA X [a, b] (tA G W ms)) (hg : Gl X "range" := by rfl) (hs : starEach [a, b] X.env = [(false, eval a X.env), (false, eval b X.env)] := by rfl) (hs2 : starEach [b] X.env = [(false, eval b X.env)] := by rfl) : PI X tg (.Call (.Name "range" p) [a, b] [] pos) (tI G W (mRng2 ms)) := tpi_range2 hg hm ha hs hs2
theorem zp {e e2 : Expr} {ms : Gam → Out (List Ar)} {p pos tpos : Pos} {elts : List Expr} {kk : Nat} (hK : G.K = X.K) (hm : X.mg "zip" = none) (ha : PA X [e, e2] (tA G W ms)) (hg : Gl X "zip" := by rfl)
    (hs : starEach [e, e2] X.env = (false, eval e X.env) :: starEach [e2] X.env := by rfl) (hpl : (backTo pos (starEach [e2] X.env)).any (·.1) = false := by rfl) : PI X (.Tuple elts kk tpos) (.Call (.Name "zip" p) [e, e2] [] pos) (tI G W (mZip ms)) := tpi_zip hK hg hm ha hs hpl
theorem en {e : Expr} {ms : Gam → Out (List Ar)} {p pos tpos : Pos} {elts : List Expr} {kk : Nat} (hK : G.K = X.K) (hm : X.mg "enumerate" = none) (ha : PA X [e] (tA G W ms)) (hg : Gl X "enumerate" := by rfl) (hs : starEach [e] X.env = [(false, eval e X.env)] := by rfl) : PI X (.Tuple elts kk tpos) (.Call (.Name "enumerate" p) [e] [] pos) (tI G W (mEnum ms)) := tpi_enum hK hg hm ha hs
theorem me {id : String} {name : Str} {apos cpos : Pos} {o e : Expr} {es : List Expr} {i : Nat} {r : V → List V → Hp → VK → Prop} {f : List D → List D → Option (D × List D)} {ms : Gam → Out (List Ar)} (slot : Slot "list" name id) (hty : typeOf (.builtin id) = pure (.type "method_descriptor")) (hm : MtR X id r) (F : MethOk G r f)
    (ho : PE X o (tO G W (oSl i))) (ha : PA X (e :: es) (tA G W ms)) (hbase : attributeBase o name X.env (eval o X.env) = eval o X.env := by rfl)
    (hfew : ((backTo cpos (starEach (e :: es) X.env)).all (fun x => !x.1) && (backToKw cpos (keywordEach [] X.env)).all (fun x => x.1.isSome)
      && decide ((e :: es).length + ([] : List Keyword).length + (if ([] : List Keyword).isEmpty then 0 else 1) < 30)) = true := by rfl)
    (hline : (apos.endLine == cpos.line) = true := by rfl) (hs : starEach (e :: es) X.env = (false, eval e X.env) :: starEach es X.env := by rfl) (hplain : (backTo cpos (starEach es X.env)).any (·.1) = false := by rfl) :
    PE X (.Call (.Attribute o name apos) (e :: es) [] cpos) (tE G W (eMeth i f ms)) := tpe_meth slot hty hm F ho ha hbase hfew hline hs hplain
theorem si {x : Nat} {o i e : Expr} {pos pos2 : Pos} {me mi : Gam → Out Ar} (ho : PE X o (tO G W (oSl x))) (hi : PE X i (tO G W mi)) (he : PE X e (tO G W me))
    (ha : ∀ v, assign (.Subscript o i pos2) X.env v = (do
      let ov ← holding [v] (eval o X.env)
      let iv ← holding [v, ov] (eval i X.env)
      standAt pos2
      holding [v, ov, iv] (setItem ov iv v)
      release [v, ov, iv] []) := by intro _; rfl) (hs : swapsWithSole [.Subscript o i pos2] e pos.line X.env = pure false := by rfl) (hw : swappedStores [.Subscript o i pos2] e X.env = pure none := by rfl)
    (h1 : (assignEach [.Subscript o i pos2] X.env).map (·.2) = [assign (.Subscript o i pos2) X.env] := by rfl) : PS X (.Assign [.Subscript o i pos2] e pos) (tS G W (sSetIx x me mi)) := tps_setIx ho hi he ha hs hw h1
theorem sa {S : List Nat} {tg e : Expr} {pos : Pos} {m : Gam → Out Ar} {f : D → Gam → Option Gam} (he : PE X e (tO G W m)) (hg : PG X tg (tgt G S f)) (hs : swapsWithSole [tg] e pos.line X.env = pure false := by rfl) (hw : swappedStores [tg] e X.env = pure none := by rfl)
    (h1 : (assignEach [tg] X.env).map (·.2) = [assign tg X.env] := by rfl) : PS X (.Assign [tg] e pos) (tS G W (sAsg m f)) := tps_asg he hg hs hw h1
end
end T

-- text U0
set_option Elab.async false
set_option linter.all false
set_option maxRecDepth 100000
set_option maxHeartbeats 4000000
namespace T
open PySem L2 PyProof.Rows
def top (i : Nat) : Stmt := PySem.Challenge.pw_armrises_k76_whole_rises_marks_and_marke.main.body.getD i (.Pass ⟨0, 0, 0, 0⟩)
abbrev FnP (K : PySem.W.Frag) (x : Str) (i : Nat) (f : Addr) (fd : FuncData) : Prop := FunD K x x (defArgs (top i)) (defBody (top i)) (defScope (top i)) [] [] f fd
abbrev tb (K : PySem.W.Frag) (w : World) : Tab := ⟨K, w, fun _ => 0⟩
structure Here (K : PySem.W.Frag) (mg : Str → Option Value) (x : Str) (i : Nat) : Prop where
  ex : ∃ f fd, FnP K x i f fd ∧ mg x = some (.ref f)
structure Has (P : Program) (w : World) (K : PySem.W.Frag) (mg : Str → Option Value) (base : Heap) (k : Nat) (x : Str) (n : Nat) (F : Gam → Out R) : Prop where
  ex : ∃ f fd ps, FnOk P w K mg base CX0 k f fd ps (spT (tb K w) n F) ∧ mg x = some (.ref f) ∧ PySem.W.keepIn K (.ref f) = true ∧ Binds K fd ps []
structure HasG (P : Program) (w : World) (K : PySem.W.Frag) (mg : Str → Option Value) (base : Heap) (k : Nat) (x : Str) (n : Nat) (F : Gam → Out (List D)) : Prop where
  ex : ∃ f fd ps, GFn P w K mg base k f fd ps (spG (tb K w) n F) ∧ mg x = some (.ref f) ∧ PySem.W.keepIn K (.ref f) = true ∧ Binds K fd ps []
structure Blt (mg : Str → Option Value) : Prop where
  len : mg "len" = none
  range : mg "range" = none
  tuple : mg "tuple" = none
  list : mg "list" = none
  zip : mg "zip" = none
  enumerate : mg "enumerate" = none
  all : mg "all" = none
  sum : mg "sum" = none
  set : mg "set" = none
  sorted : mg "sorted" = none
  isinstance : mg "isinstance" = none
  int : mg "int" = none
  bool : mg "bool" = none
  abs : mg "abs" = none
  repr : mg "repr" = none
  min : mg "min" = none
  max : mg "max" = none
  super : mg "super" = none
  MOST_ENTRIES : ∃ t, mg "MOST_ENTRIES" = some (.int 6 t)
  MOST_ROWED : ∃ t, mg "MOST_ROWED" = some (.int 6 t)
def N_is_whole_number : List Str := ["value"]
theorem sc_is_whole_number : FnScope N_is_whole_number ["value"] (defScope (top 5)) := ⟨rfl, rfl, rfl, by decide +kernel, rfl, by decide +kernel, by decide +kernel⟩
def N_is_within : List Str := ["value", "least", "most"]
theorem sc_is_within : FnScope N_is_within ["value", "least", "most"] (defScope (top 6)) := ⟨rfl, rfl, rfl, by decide +kernel, rfl, by decide +kernel, by decide +kernel⟩
def N_area_rows_in : List Str := ["size", "found", "index", "row", "entry"]
theorem sc_area_rows_in : FnScope N_area_rows_in ["size"] (defScope (top 9)) := ⟨rfl, rfl, rfl, by decide +kernel, rfl, by decide +kernel, by decide +kernel⟩
def N_is_area_row_in : List Str := ["value", "entry", "later"]
theorem sc_is_area_row_in : FnScope N_is_area_row_in ["value"] (defScope (top 10)) := ⟨rfl, rfl, rfl, by decide +kernel, rfl, by decide +kernel, by decide +kernel⟩
def N_does_climb : List Str := ["row", "index"]
theorem sc_does_climb : FnScope N_does_climb ["row", "index"] (defScope (top 11)) := ⟨rfl, rfl, rfl, by decide +kernel, rfl, by decide +kernel, by decide +kernel⟩
def N_is_labelled_in : List Str := ["row", "value", "label", "index"]
theorem sc_is_labelled_in : FnScope N_is_labelled_in ["row", "value"] (defScope (top 12)) := ⟨rfl, rfl, rfl, by decide +kernel, rfl, by decide +kernel, by decide +kernel⟩
def N_index_pairs : List Str := ["row", "found", "first", "entry", "second"]
theorem sc_index_pairs : FnScope N_index_pairs ["row"] (defScope (top 13)) := ⟨rfl, rfl, rfl, by decide +kernel, rfl, by decide +kernel, by decide +kernel⟩
def N_dinv_along : List Str := ["pairs", "labels", "first", "second", "sign"]
theorem sc_dinv_along : FnScope N_dinv_along ["pairs", "labels"] (defScope (top 14)) := ⟨rfl, rfl, rfl, by decide +kernel, rfl, by decide +kernel, by decide +kernel⟩
def N_path_counts_in : List Str := ["row", "labels"]
theorem sc_path_counts_in : FnScope N_path_counts_in ["row", "labels"] (defScope (top 15)) := ⟨rfl, rfl, rfl, by decide +kernel, rfl, by decide +kernel, by decide +kernel⟩
def N_require_row : List Str := ["value"]
theorem sc_require_row : FnScope N_require_row ["value"] (defScope (top 16)) := ⟨rfl, rfl, rfl, by decide +kernel, rfl, by decide +kernel, by decide +kernel⟩
def N_rises_in : List Str := ["row", "index"]
theorem sc_rises_in : FnScope N_rises_in ["row"] (defScope (top 19)) := ⟨rfl, rfl, rfl, by decide +kernel, rfl, by decide +kernel, by decide +kernel⟩
def N_tuples_from : List Str := ["some", "many", "found", "_", "begun", "one"]
theorem sc_tuples_from : FnScope N_tuples_from ["some", "many"] (defScope (top 20)) := ⟨rfl, rfl, rfl, by decide +kernel, rfl, by decide +kernel, by decide +kernel⟩
def N_are_marks_in : List Str := ["row", "value", "rises", "one", "later"]
theorem sc_are_marks_in : FnScope N_are_marks_in ["row", "value"] (defScope (top 21)) := ⟨rfl, rfl, rfl, by decide +kernel, rfl, by decide +kernel, by decide +kernel⟩
def N_marked_pairs_in : List Str := ["size", "many", "row", "marks"]
theorem sc_marked_pairs_in : FnScope N_marked_pairs_in ["size", "many"] (defScope (top 22)) := ⟨rfl, rfl, rfl, by decide +kernel, rfl, by decide +kernel, by decide +kernel⟩
def N_marked_entries : List Str := ["row", "marks", "index"]
theorem sc_marked_entries : FnScope N_marked_entries ["row", "marks"] (defScope (top 23)) := ⟨rfl, rfl, rfl, by decide +kernel, rfl, by decide +kernel, by decide +kernel⟩
def N_require_marks : List Str := ["row", "marks"]
theorem sc_require_marks : FnScope N_require_marks ["row", "marks"] (defScope (top 24)) := ⟨rfl, rfl, rfl, by decide +kernel, rfl, by decide +kernel, by decide +kernel⟩
def N_require_size_and_many : List Str := ["size", "many", "most"]
theorem sc_require_size_and_many : FnScope N_require_size_and_many ["size", "many", "most"] (defScope (top 25)) := ⟨rfl, rfl, rfl, by decide +kernel, rfl, by decide +kernel, by decide +kernel⟩
def N_rises : List Str := ["row"]
theorem sc_rises : FnScope N_rises ["row"] (defScope (top 26)) := ⟨rfl, rfl, rfl, by decide +kernel, rfl, by decide +kernel, by decide +kernel⟩
def N_are_marks : List Str := ["row", "value"]
theorem sc_are_marks : FnScope N_are_marks ["row", "value"] (defScope (top 27)) := ⟨rfl, rfl, rfl, by decide +kernel, rfl, by decide +kernel, by decide +kernel⟩
def N_marked_rows : List Str := ["size", "many", "pair"]
theorem sc_marked_rows : GScope N_marked_rows ["size", "many"] (defScope (top 28)) := ⟨rfl, rfl, rfl, by decide +kernel, rfl, by decide +kernel, by decide +kernel⟩
def N_marked_counts : List Str := ["row", "marks", "labels", "area", "dinv"]
theorem sc_marked_counts : FnScope N_marked_counts ["row", "marks", "labels"] (defScope (top 29)) := ⟨rfl, rfl, rfl, by decide +kernel, rfl, by decide +kernel, by decide +kernel⟩
def N_law_dice : List Str := ["script", "at", "cell", "great", "left", "mixed"]
theorem sc_law_dice : FnScope N_law_dice ["script", "at"] (defScope (top 31)) := ⟨rfl, rfl, rfl, by decide +kernel, rfl, by decide +kernel, by decide +kernel⟩
def N_law_roll : List Str := ["dice", "total", "size", "drawn", "one", "two"]
theorem sc_law_roll : FnScope N_law_roll ["dice", "total"] (defScope (top 32)) := ⟨rfl, rfl, rfl, by decide +kernel, rfl, by decide +kernel, by decide +kernel⟩
def N_law_one_of : List Str := ["dice", "items"]
theorem sc_law_one_of : FnScope N_law_one_of ["dice", "items"] (defScope (top 33)) := ⟨rfl, rfl, rfl, by decide +kernel, rfl, by decide +kernel, by decide +kernel⟩
def N_law_mixed : List Str := ["dice", "items", "left", "found"]
theorem sc_law_mixed : FnScope N_law_mixed ["dice", "items"] (defScope (top 34)) := ⟨rfl, rfl, rfl, by decide +kernel, rfl, by decide +kernel, by decide +kernel⟩
def N_law_path_counts : List Str := ["row", "order", "dinv", "at", "to", "is_level"]
theorem sc_law_path_counts : FnScope N_law_path_counts ["row", "order"] (defScope (top 35)) := ⟨rfl, rfl, rfl, by decide +kernel, rfl, by decide +kernel, by decide +kernel⟩
def N_law_area_rows : List Str := ["size", "found", "turn", "later", "row", "entry"]
theorem sc_law_area_rows : FnScope N_law_area_rows ["size"] (defScope (top 36)) := ⟨rfl, rfl, rfl, by decide +kernel, rfl, by decide +kernel, by decide +kernel⟩
def N_law_climbs : List Str := ["row", "at"]
theorem sc_law_climbs : FnScope N_law_climbs ["row"] (defScope (top 37)) := ⟨rfl, rfl, rfl, by decide +kernel, rfl, by decide +kernel, by decide +kernel⟩
def N_law_lots_from : List Str := ["items", "many", "found", "turn", "later", "lot", "item"]
theorem sc_law_lots_from : FnScope N_law_lots_from ["items", "many"] (defScope (top 38)) := ⟨rfl, rfl, rfl, by decide +kernel, rfl, by decide +kernel, by decide +kernel⟩
def N_law_marked_rows : List Str := ["size", "many", "found", "row", "lot"]
theorem sc_law_marked_rows : FnScope N_law_marked_rows ["size", "many"] (defScope (top 39)) := ⟨rfl, rfl, rfl, by decide +kernel, rfl, by decide +kernel, by decide +kernel⟩
def N_law_is_lot : List Str := ["row", "value", "one", "other"]
theorem sc_law_is_lot : FnScope N_law_is_lot ["row", "value"] (defScope (top 40)) := ⟨rfl, rfl, rfl, by decide +kernel, rfl, by decide +kernel, by decide +kernel⟩
def N_law_near_lots : List Str := ["dice", "row", "lot", "found", "one"]
theorem sc_law_near_lots : FnScope N_law_near_lots ["dice", "row", "lot"] (defScope (top 41)) := ⟨rfl, rfl, rfl, by decide +kernel, rfl, by decide +kernel, by decide +kernel⟩
def N_law_right : List Str := ["dice", "size", "row", "climbs", "lot", "value", "left", "order", "at", "to", "area", "dinv", "one"]
theorem sc_law_right : FnScope N_law_right ["dice"] (defScope (top 42)) := ⟨rfl, rfl, rfl, by decide +kernel, rfl, by decide +kernel, by decide +kernel⟩
def N_law : List Str := ["script", "at", "dice", "turn", "size", "many", "row"]
theorem sc_law : FnScope N_law ["script"] (defScope (top 43)) := ⟨rfl, rfl, rfl, by decide +kernel, rfl, by decide +kernel, by decide +kernel⟩
end T

-- text U1
set_option Elab.async false
set_option linter.all false
set_option maxRecDepth 100000
set_option maxHeartbeats 4000000
namespace T
open PySem L2 PyProof.Rows
section
variable {P : Program} {w : World} {K : PySem.W.Frag} {mg : Str → Option Value} {base : Heap}
def s_is_whole_number : Gam → OutS := (sSeq (sRet (eAnd (eCall bIsi (aCons (oSl 0) (aCons (fO (eC (.ty "int"))) aNil))) (eNot (eCall bIsi (aCons (oSl 0) (aCons (fO (eC (.ty "bool"))) aNil)))))) sNx)
def B_is_whole_number : Gam → Out R := fnB 0 s_is_whole_number
theorem ok_is_whole_number (B : Blt mg) (h : Here K mg "is_whole_number" 5) : Has P w K mg base 1 "is_whole_number" 1 B_is_whole_number := by
  obtain ⟨f, fd, FP, g⟩ := h.ex
  have nd := sc_is_whole_number.nd
  refine ⟨f, fd, ["value"], FP.ok (N := N_is_whole_number) sc_is_whole_number (fun vs H Q E h => h.1) (fun cdv A outer s H vs Q E hr h => ⟨_, PSs.nox ?_, fn_reads (N := N_is_whole_number) (m := 0) rfl vs Q E h⟩), g, FP.kp, FP.bindsN fun _ _ _ _ _ _ us hl => match us, hl with | [_], _ => rfl⟩
  exact (tps_cons (tps_ret (tpe_and (cb call_isi (ok_isi rfl) B.isinstance rfl (a1 (sl 0) (a1 (to_val (bT B.int rfl)) tpa_nil))) (tpe_one (tpe_not (cb call_isi (ok_isi rfl) B.isinstance rfl (a1 (sl 0) (a1 (to_val (bT B.bool rfl)) tpa_nil))))))) tps_nil)
abbrev F_is_whole_number := B_is_whole_number
def s_is_within : Gam → OutS := (sSeq (sRet (eAnd (eCallN 1 F_is_whole_number (aCons (fO (eRd 0)) aNil)) (eChain fLe fLe (oSl 1) (oSl 0) (oSl 2)))) sNx)
def B_is_within : Gam → Out R := fnB 0 s_is_within
theorem ok_is_within (B : Blt mg) (h : Here K mg "is_within" 6) (H_is_whole_number : Has P w K mg base 1 "is_whole_number" 1 F_is_whole_number) : Has P w K mg base 2 "is_within" 3 B_is_within := by
  obtain ⟨f, fd, FP, g⟩ := h.ex
  obtain ⟨f_is_whole_number, fd_is_whole_number, ps_is_whole_number, O_is_whole_number, g_is_whole_number, k_is_whole_number, b_is_whole_number⟩ := H_is_whole_number.ex
  have nd := sc_is_within.nd
  refine ⟨f, fd, ["value", "least", "most"], FP.ok (N := N_is_within) sc_is_within (fun vs H Q E h => h.1) (fun cdv A outer s H vs Q E hr h => ⟨_, PSs.nox ?_, fn_reads (N := N_is_within) (m := 0) rfl vs Q E h⟩), g, FP.kp, FP.bindsN fun _ _ _ _ _ _ us hl => match us, hl with | [_, _, _], _ => rfl⟩
  exact (tps_cons (tps_ret (tpe_and (cu O_is_whole_number hr g_is_whole_number k_is_whole_number b_is_whole_number (a1 (to_val (rd 0)) tpa_nil)) (tpe_one (ch op_le op_le ok_le ok_le (sl 1) (sl 0) (sl 2))))) tps_nil)
abbrev F_is_within := B_is_within
def s_area_rows_in : Gam → OutS := (sSeq (sSet 1 (eLst (aCons (fO (eTup (aCons (fO (eC (.int 0))) aNil))) aNil))) (sSeq (sFor (mRng2 (aCons (fO (eC (.int 1))) (aCons (oSl 0) aNil))) (gNm 2) (sSeq (sSet 1 (eLc2 (mIter (fO (eRd 1))) [3, 4] (gNm 3) mYes (mRng1 (aCons (fO (eOp fAdd (fO (eOp fIx (oSl 3) (fO (eNeg (fO (eC (.int 1))))))) (fO (eC (.int 2))))) aNil)) [4] (gNm 4) mYes (fO (eTup (aStar (fO (eRd 3)) (aCons (fO (eRd 4)) aNil)))))) sNx)) (sSeq (sRet (eMv 1)) sNx)))
def B_area_rows_in : Gam → Out R := fnB 4 s_area_rows_in
theorem ok_area_rows_in (B : Blt mg) (h : Here K mg "area_rows_in" 9) : Has P w K mg base 1 "area_rows_in" 1 B_area_rows_in := by
  obtain ⟨f, fd, FP, g⟩ := h.ex
  have nd := sc_area_rows_in.nd
  refine ⟨f, fd, ["size"], FP.ok (N := N_area_rows_in) sc_area_rows_in (fun vs H Q E h => h.1) (fun cdv A outer s H vs Q E hr h => ⟨_, PSs.nox ?_, fn_reads (N := N_area_rows_in) (m := 4) rfl vs Q E h⟩), g, FP.kp, FP.bindsN fun _ _ _ _ _ _ us hl => match us, hl with | [_], _ => rfl⟩
  exact (tps_cons (stv 1 nd (tpe_lst (a1 (to_val (tpe_tup (a1 (to_val cI) tpa_nil))) tpa_nil))) (tps_cons (fr PassesOwn.never rfl (r2 B.range (a1 (to_val cI) (a1 (sl 0) tpa_nil))) (gn 2 nd) (tps_cons (tps_setLc2 (i := 1) (own := [("row", 3), ("entry", 4)]) (vs1 := [4]) rfl nd rfl rfl (sw_true rfl rfl rfl (by decide +kernel)) (tpi_seq rfl (to_val (rd 1))) (blkOk_by (N := N_area_rows_in) (sc := defScope (top 9)) (own := [("row", 3), ("entry", 4)]) (by decide +kernel)) (by decide) (fun _ _ _ _ _ => (gn 3 nd)) (fun _ _ _ _ _ => tpts_nil) (fun _ _ _ _ _ => (r1 B.range (a1 (to_val (tpe_op op_addA (ok_add rfl) (to_val (tpe_ix rfl (sl 3) (to_val (tpe_neg (to_val cI))) (fun _ _ => rfl))) (to_val cI))) tpa_nil))) (fun _ _ _ _ _ => (gn 4 nd)) (fun _ _ _ _ _ => tpts_nil) (fun _ _ _ _ _ => (to_val (tpe_tup (aS rfl (to_val (rd 3)) (a1 (to_val (rd 4)) tpa_nil))))) (by intro _; rfl) (by intro _ _; rfl) (by decide) (by decide)) tps_nil)) (tps_cons (tps_ret (mv 1)) tps_nil)))
abbrev F_area_rows_in := B_area_rows_in
def s_is_area_row_in : Gam → OutS := (sSeq (sIf (bOr (bNot (toT (eCall bIsi (aCons (oSl 0) (aCons (fO (eC (.ty "tuple"))) aNil))))) (bNot (toT (eChain fLe fLe (fO (eC (.int 1))) (fO (eCall bLen (aCons (oSl 0) aNil))) (fO (eC (.int 6))))))) (sSeq (sRet (eC (.bl false))) sNx) sNx) (sSeq (sIf (bOr (bNot (toT (eCall bAll (aCons (fO (eLc (mIter (fO (eRd 0))) [1] (gNm 1) mYes (fO (eCallN 3 F_is_within (aCons (fO (eRd 1)) (aCons (fO (eC (.int 0))) (aCons (fO (eC (.int 6))) aNil))))))) aNil)))) (toT (eOp (fEq true) (fO (eOp fIx (oSl 0) (fO (eC (.int 0))))) (fO (eC (.int 0)))))) (sSeq (sRet (eC (.bl false))) sNx) sNx) (sSeq (sRet (eCall bAll (aCons (fO (eLc (mZip (aCons (fO (eRd 0)) (aCons (fO (eSl (oSl 0) (pSome (fO (eC (.int 1)))) pNone)) aNil))) [1, 2] (gTp 2 (gsCons (gNm 1) (gsCons (gNm 2) gsNil))) mYes (fO (eOp fLe (oSl 2) (fO (eOp fAdd (oSl 1) (fO (eC (.int 1))))))))) aNil))) sNx)))
def B_is_area_row_in : Gam → Out R := fnB 2 s_is_area_row_in
theorem ok_is_area_row_in (B : Blt mg) (h : Here K mg "is_area_row_in" 10) (H_is_within : Has P w K mg base 2 "is_within" 3 F_is_within) : Has P w K mg base 3 "is_area_row_in" 1 B_is_area_row_in := by
  obtain ⟨f, fd, FP, g⟩ := h.ex
  obtain ⟨f_is_within, fd_is_within, ps_is_within, O_is_within, g_is_within, k_is_within, b_is_within⟩ := H_is_within.ex
  have nd := sc_is_area_row_in.nd
  refine ⟨f, fd, ["value"], FP.ok (N := N_is_area_row_in) sc_is_area_row_in (fun vs H Q E h => h.1) (fun cdv A outer s H vs Q E hr h => ⟨_, PSs.nox ?_, fn_reads (N := N_is_area_row_in) (m := 2) rfl vs Q E h⟩), g, FP.kp, FP.bindsN fun _ _ _ _ _ _ us hl => match us, hl with | [_], _ => rfl⟩
  exact (tps_cons (tps_if (PW.pt (tpw_or (tpt_not (tv (cb call_isi (ok_isi rfl) B.isinstance rfl (a1 (sl 0) (a1 (to_val (bT B.tuple rfl)) tpa_nil))))) (tpw_or1 (tpt_not (chT op_le op_le ok_le ok_le (to_val cI) (to_val (cb call_len_seq (ok_len rfl) B.len rfl (a1 (sl 0) tpa_nil))) (to_val (gI B.MOST_ENTRIES))))))) (tps_cons (tps_ret cB) tps_nil) tps_nil) (tps_cons (tps_if (PW.pt (tpw_or (tpt_not (tv (cb (cr_all rfl) ok_all B.all rfl (a1 (to_val (tpe_lc (own := [("entry", 1)]) rfl nd (tpi_seq rfl (to_val (rd 0))) (blkOk_by (N := N_is_area_row_in) (sc := defScope (top 10)) (own := [("entry", 1)]) (by decide +kernel)) (fun _ _ _ _ _ => (gn 1 nd)) (fun _ _ _ _ _ => tpts_nil) (fun _ _ _ _ _ => (to_val (cu O_is_within hr g_is_within k_is_within b_is_within (a1 (to_val (rd 1)) (a1 (to_val cI) (a1 (to_val (gI B.MOST_ENTRIES)) tpa_nil)))))) (by intro _; rfl) (by decide))) tpa_nil)))) (tpw_or1 (cmT (op_neD hr.units) (ok_ne rfl) (to_val (tpe_ix rfl (sl 0) (to_val cI) (fun _ _ => rfl))) (to_val cI))))) (tps_cons (tps_ret cB) tps_nil) tps_nil) (tps_cons (tps_ret (cb (cr_all rfl) ok_all B.all rfl (a1 (to_val (tpe_lc (own := [("entry", 1), ("later", 2)]) rfl nd (zp rfl B.zip (a1 (to_val (rd 0)) (a1 (to_val (tpe_slice rfl (sl 0) (tpo_some (to_val cI)) tpo_none)) tpa_nil))) (blkOk_by (N := N_is_area_row_in) (sc := defScope (top 10)) (own := [("entry", 1), ("later", 2)]) (by decide +kernel)) (fun _ _ _ _ _ => (gt rfl rfl (gc (gn 1 nd) (gc (gn 2 nd) tpgs_nil)))) (fun _ _ _ _ _ => tpts_nil) (fun _ _ _ _ _ => (to_val (cm op_le ok_le (sl 2) (to_val (tpe_op op_addA (ok_add rfl) (sl 1) (to_val cI)))))) (by intro _; rfl) (by decide))) tpa_nil))) tps_nil)))
abbrev F_is_area_row_in := B_is_area_row_in
def s_does_climb : Gam → OutS := (sSeq (sRet (eAnd (eOp fGt (oSl 1) (fO (eC (.int 0)))) (eOp (fEq false) (fO (eOp fIx (oSl 0) (oSl 1))) (fO (eOp fAdd (fO (eOp fIx (oSl 0) (fO (eOp fSub (oSl 1) (fO (eC (.int 1))))))) (fO (eC (.int 1)))))))) sNx)
def B_does_climb : Gam → Out R := fnB 0 s_does_climb
theorem ok_does_climb (B : Blt mg) (h : Here K mg "does_climb" 11) : Has P w K mg base 1 "does_climb" 2 B_does_climb := by
  obtain ⟨f, fd, FP, g⟩ := h.ex
  have nd := sc_does_climb.nd
  refine ⟨f, fd, ["row", "index"], FP.ok (N := N_does_climb) sc_does_climb (fun vs H Q E h => h.1) (fun cdv A outer s H vs Q E hr h => ⟨_, PSs.nox ?_, fn_reads (N := N_does_climb) (m := 0) rfl vs Q E h⟩), g, FP.kp, FP.bindsN fun _ _ _ _ _ _ us hl => match us, hl with | [_, _], _ => rfl⟩
  exact (tps_cons (tps_ret (tpe_and (cm op_gt ok_gt (sl 1) (to_val cI)) (tpe_one (cm (op_eqD hr.units) (ok_eq rfl) (to_val (tpe_ix rfl (sl 0) (sl 1) (fun _ _ => rfl))) (to_val (tpe_op op_addA (ok_add rfl) (to_val (tpe_ix rfl (sl 0) (to_val (tpe_op op_sub ok_sub (sl 1) (to_val cI))) (fun _ _ => rfl))) (to_val cI))))))) tps_nil)
abbrev F_does_climb := B_does_climb
def s_is_labelled_in : Gam → OutS := (sSeq (sIf (bOr (bNot (toT (eCall bIsi (aCons (oSl 1) (aCons (fO (eC (.ty "tuple"))) aNil))))) (bNot (toT (eCall bAll (aCons (fO (eLc (mIter (fO (eRd 1))) [2] (gNm 2) mYes (fO (eCallN 3 F_is_within (aCons (fO (eRd 2)) (aCons (fO (eC (.int 1))) (aCons (fO (eCall bLen (aCons (oSl 0) aNil))) aNil))))))) aNil))))) (sSeq (sRet (eC (.bl false))) sNx) sNx) (sSeq (sIf (bOr (toT (eOp (fEq true) (fO (eCall bLen (aCons (oSl 1) aNil))) (fO (eCall bLen (aCons (oSl 0) aNil))))) (toT (eOp (fEq true) (fO (eLenSet (aCons (fO (eRd 1)) aNil))) (fO (eCall bLen (aCons (oSl 0) aNil)))))) (sSeq (sRet (eC (.bl false))) sNx) sNx) (sSeq (sRet (eCall bAll (aCons (fO (eLc (mRng2 (aCons (fO (eC (.int 1))) (aCons (fO (eCall bLen (aCons (oSl 0) aNil))) aNil))) [3] (gNm 3) (toT (eCallN 2 F_does_climb (aCons (fO (eRd 0)) (aCons (fO (eRd 3)) aNil)))) (fO (eOp fGt (fO (eOp fIx (oSl 1) (oSl 3))) (fO (eOp fIx (oSl 1) (fO (eOp fSub (oSl 3) (fO (eC (.int 1))))))))))) aNil))) sNx)))
def B_is_labelled_in : Gam → Out R := fnB 2 s_is_labelled_in
theorem ok_is_labelled_in (B : Blt mg) (h : Here K mg "is_labelled_in" 12) (H_does_climb : Has P w K mg base 1 "does_climb" 2 F_does_climb) (H_is_within : Has P w K mg base 2 "is_within" 3 F_is_within) : Has P w K mg base 3 "is_labelled_in" 2 B_is_labelled_in := by
  obtain ⟨f, fd, FP, g⟩ := h.ex
  obtain ⟨f_does_climb, fd_does_climb, ps_does_climb, O_does_climb, g_does_climb, k_does_climb, b_does_climb⟩ := H_does_climb.ex
  obtain ⟨f_is_within, fd_is_within, ps_is_within, O_is_within, g_is_within, k_is_within, b_is_within⟩ := H_is_within.ex
  have nd := sc_is_labelled_in.nd
  refine ⟨f, fd, ["row", "value"], FP.ok (N := N_is_labelled_in) sc_is_labelled_in (fun vs H Q E h => h.1) (fun cdv A outer s H vs Q E hr h => ⟨_, PSs.nox ?_, fn_reads (N := N_is_labelled_in) (m := 2) rfl vs Q E h⟩), g, FP.kp, FP.bindsN fun _ _ _ _ _ _ us hl => match us, hl with | [_, _], _ => rfl⟩
  exact (tps_cons (tps_if (PW.pt (tpw_or (tpt_not (tv (cb call_isi (ok_isi rfl) B.isinstance rfl (a1 (sl 1) (a1 (to_val (bT B.tuple rfl)) tpa_nil))))) (tpw_or1 (tpt_not (tv (cb (cr_all rfl) ok_all B.all rfl (a1 (to_val (tpe_lc (own := [("label", 2)]) rfl nd (tpi_seq rfl (to_val (rd 1))) (blkOk_by (N := N_is_labelled_in) (sc := defScope (top 12)) (own := [("label", 2)]) (by decide +kernel)) (fun _ _ _ _ _ => (gn 2 nd)) (fun _ _ _ _ _ => tpts_nil) (fun _ _ _ _ _ => (to_val (cu O_is_within hr g_is_within k_is_within b_is_within (a1 (to_val (rd 2)) (a1 (to_val cI) (a1 (to_val (cb call_len_seq (ok_len rfl) B.len rfl (a1 (sl 0) tpa_nil))) tpa_nil)))))) (by intro _; rfl) (by decide))) tpa_nil))))))) (tps_cons (tps_ret cB) tps_nil) tps_nil) (tps_cons (tps_if (PW.pt (tpw_or (cmT (op_neD hr.units) (ok_ne rfl) (to_val (cb call_len_seq (ok_len rfl) B.len rfl (a1 (sl 1) tpa_nil))) (to_val (cb call_len_seq (ok_len rfl) B.len rfl (a1 (sl 0) tpa_nil)))) (tpw_or1 (cmT (op_neD hr.units) (ok_ne rfl) (to_val (tpe_lenSet (x := "") (y := "") rfl rfl rfl B.len rfl B.set (a1 (to_val (rd 1)) tpa_nil) rfl rfl)) (to_val (cb call_len_seq (ok_len rfl) B.len rfl (a1 (sl 0) tpa_nil))))))) (tps_cons (tps_ret cB) tps_nil) tps_nil) (tps_cons (tps_ret (cb (cr_all rfl) ok_all B.all rfl (a1 (to_val (tpe_lc (own := [("index", 3)]) rfl nd (r2 B.range (a1 (to_val cI) (a1 (to_val (cb call_len_seq (ok_len rfl) B.len rfl (a1 (sl 0) tpa_nil))) tpa_nil))) (blkOk_by (N := N_is_labelled_in) (sc := defScope (top 12)) (own := [("index", 3)]) (by decide +kernel)) (fun _ _ _ _ _ => (gn 3 nd)) (fun _ _ _ _ _ => (tpts_one (tv (cu O_does_climb hr g_does_climb k_does_climb b_does_climb (a1 (to_val (rd 0)) (a1 (to_val (rd 3)) tpa_nil)))))) (fun _ _ _ _ _ => (to_val (cm op_gt ok_gt (to_val (tpe_ix rfl (sl 1) (sl 3) (fun _ _ => rfl))) (to_val (tpe_ix rfl (sl 1) (to_val (tpe_op op_sub ok_sub (sl 3) (to_val cI))) (fun _ _ => rfl)))))) (by intro _; rfl) (by decide))) tpa_nil))) tps_nil)))
abbrev F_is_labelled_in := B_is_labelled_in
def s_index_pairs : Gam → OutS := (sSeq (sSet 1 (eLst aNil)) (sSeq (sFor (mEnum (aCons (fO (eRd 0)) aNil)) (gTp 2 (gsCons (gNm 2) (gsCons (gNm 3) gsNil))) (sSeq (sFor (mRng2 (aCons (fO (eOp fAdd (oSl 2) (fO (eC (.int 1))))) (aCons (fO (eCall bLen (aCons (oSl 0) aNil))) aNil))) (gNm 4) (sSeq (sIf (toT (eOp (fIn false) (fO (eOp fSub (oSl 3) (fO (eOp fIx (oSl 0) (oSl 4))))) (fO (eTup (aCons (fO (eC (.int 0))) (aCons (fO (eC (.int 1))) aNil)))))) (sSeq (sExpr (eMeth 1 fAppend (aCons (fO (eTup (aCons (fO (eRd 2)) (aCons (fO (eRd 4)) (aCons (fO (eOp fSub (oSl 3) (fO (eOp fIx (oSl 0) (oSl 4))))) aNil))))) aNil))) sNx) sNx) sNx)) sNx)) (sSeq (sRet (eMv 1)) sNx)))
def B_index_pairs : Gam → Out R := fnB 4 s_index_pairs
theorem ok_index_pairs (B : Blt mg) (h : Here K mg "index_pairs" 13) : Has P w K mg base 1 "index_pairs" 1 B_index_pairs := by
  obtain ⟨f, fd, FP, g⟩ := h.ex
  have nd := sc_index_pairs.nd
  refine ⟨f, fd, ["row"], FP.ok (N := N_index_pairs) sc_index_pairs (fun vs H Q E h => h.1) (fun cdv A outer s H vs Q E hr h => ⟨_, PSs.nox ?_, fn_reads (N := N_index_pairs) (m := 4) rfl vs Q E h⟩), g, FP.kp, FP.bindsN fun _ _ _ _ _ _ us hl => match us, hl with | [_], _ => rfl⟩
  exact (tps_cons (stv 1 nd (tpe_lst tpa_nil)) (tps_cons (fr PassesOwn.never rfl (en rfl B.enumerate (a1 (to_val (rd 0)) tpa_nil)) (gt rfl rfl (gc (gn 2 nd) (gc (gn 3 nd) tpgs_nil))) (tps_cons (fr PassesOwn.never rfl (r2 B.range (a1 (to_val (tpe_op op_addA (ok_add rfl) (sl 2) (to_val cI))) (a1 (to_val (cb call_len_seq (ok_len rfl) B.len rfl (a1 (sl 0) tpa_nil))) tpa_nil))) (gn 4 nd) (tps_cons (tps_if (cmT op_in_seq (ok_in rfl false) (to_val (tpe_op op_sub ok_sub (sl 3) (to_val (tpe_ix rfl (sl 0) (sl 4) (fun _ _ => rfl))))) (to_val (tpe_tup (a1 (to_val cI) (a1 (to_val cI) tpa_nil))))) (tps_cons (sx (me PySem.F.slot_list_append PySem.F.type_list_append mt_append ok_append (sl 1) (a1 (to_val (tpe_tup (a1 (to_val (rd 2)) (a1 (to_val (rd 4)) (a1 (to_val (tpe_op op_sub ok_sub (sl 3) (to_val (tpe_ix rfl (sl 0) (sl 4) (fun _ _ => rfl))))) tpa_nil))))) tpa_nil))) tps_nil) tps_nil) tps_nil)) tps_nil)) (tps_cons (tps_ret (mv 1)) tps_nil)))
abbrev F_index_pairs := B_index_pairs
def s_dinv_along : Gam → OutS := (sSeq (sRet (eCall bLen (aCons (fO (eLc (mIter (fO (eRd 0))) [2, 3, 4] (gTp 3 (gsCons (gNm 2) (gsCons (gNm 3) (gsCons (gNm 4) gsNil)))) (toT (eOp (fEq false) (fO (eOp fGt (fO (eOp fIx (oSl 1) (oSl 2))) (fO (eOp fIx (oSl 1) (oSl 3))))) (fO (eOp (fEq false) (oSl 4) (fO (eC (.int 1))))))) (fO (eC (.int 1))))) aNil))) sNx)
def B_dinv_along : Gam → Out R := fnB 3 s_dinv_along
theorem ok_dinv_along (B : Blt mg) (h : Here K mg "dinv_along" 14) : Has P w K mg base 1 "dinv_along" 2 B_dinv_along := by
  obtain ⟨f, fd, FP, g⟩ := h.ex
  have nd := sc_dinv_along.nd
  refine ⟨f, fd, ["pairs", "labels"], FP.ok (N := N_dinv_along) sc_dinv_along (fun vs H Q E h => h.1) (fun cdv A outer s H vs Q E hr h => ⟨_, PSs.nox ?_, fn_reads (N := N_dinv_along) (m := 3) rfl vs Q E h⟩), g, FP.kp, FP.bindsN fun _ _ _ _ _ _ us hl => match us, hl with | [_, _], _ => rfl⟩
  exact (tps_cons (tps_ret (cb call_len_seq (ok_len rfl) B.len rfl (a1 (to_val (tpe_lc (own := [("first", 2), ("second", 3), ("sign", 4)]) rfl nd (tpi_seq rfl (to_val (rd 0))) (blkOk_by (N := N_dinv_along) (sc := defScope (top 14)) (own := [("first", 2), ("second", 3), ("sign", 4)]) (by decide +kernel)) (fun _ _ _ _ _ => (gt rfl rfl (gc (gn 2 nd) (gc (gn 3 nd) (gc (gn 4 nd) tpgs_nil))))) (fun _ _ _ _ _ => (tpts_one (cmT (op_eqD hr.units) (ok_eq rfl) (to_val (cm op_gt ok_gt (to_val (tpe_ix rfl (sl 1) (sl 2) (fun _ _ => rfl))) (to_val (tpe_ix rfl (sl 1) (sl 3) (fun _ _ => rfl))))) (to_val (cm (op_eqD hr.units) (ok_eq rfl) (sl 4) (to_val cI)))))) (fun _ _ _ _ _ => (to_val cI)) (by intro _; rfl) (by decide))) tpa_nil))) tps_nil)
abbrev F_dinv_along := B_dinv_along
def s_path_counts_in : Gam → OutS := (sSeq (sRet (eTup (aCons (fO (eCall bSum (aCons (oSl 0) aNil))) (aCons (fO (eCallN 2 F_dinv_along (aCons (fO (eCallN 1 F_index_pairs (aCons (fO (eRd 0)) aNil))) (aCons (fO (eRd 1)) aNil)))) aNil)))) sNx)
def B_path_counts_in : Gam → Out R := fnB 0 s_path_counts_in
theorem ok_path_counts_in (B : Blt mg) (h : Here K mg "path_counts_in" 15) (H_dinv_along : Has P w K mg base 1 "dinv_along" 2 F_dinv_along) (H_index_pairs : Has P w K mg base 1 "index_pairs" 1 F_index_pairs) : Has P w K mg base 2 "path_counts_in" 2 B_path_counts_in := by
  obtain ⟨f, fd, FP, g⟩ := h.ex
  obtain ⟨f_dinv_along, fd_dinv_along, ps_dinv_along, O_dinv_along, g_dinv_along, k_dinv_along, b_dinv_along⟩ := H_dinv_along.ex
  obtain ⟨f_index_pairs, fd_index_pairs, ps_index_pairs, O_index_pairs, g_index_pairs, k_index_pairs, b_index_pairs⟩ := H_index_pairs.ex
  have nd := sc_path_counts_in.nd
  refine ⟨f, fd, ["row", "labels"], FP.ok (N := N_path_counts_in) sc_path_counts_in (fun vs H Q E h => h.1) (fun cdv A outer s H vs Q E hr h => ⟨_, PSs.nox ?_, fn_reads (N := N_path_counts_in) (m := 0) rfl vs Q E h⟩), g, FP.kp, FP.bindsN fun _ _ _ _ _ _ us hl => match us, hl with | [_, _], _ => rfl⟩
  exact (tps_cons (tps_ret (tpe_tup (a1 (to_val (cb (cr_sumB rfl) (ok_sum rfl) B.sum rfl (a1 (sl 0) tpa_nil))) (a1 (to_val (cu O_dinv_along hr g_dinv_along k_dinv_along b_dinv_along (a1 (to_val (cu O_index_pairs hr g_index_pairs k_index_pairs b_index_pairs (a1 (to_val (rd 0)) tpa_nil))) (a1 (to_val (rd 1)) tpa_nil)))) tpa_nil)))) tps_nil)
abbrev F_path_counts_in := B_path_counts_in
def s_require_row : Gam → OutS := (sSeq (sIf (bNot (toT (eCallN 1 F_is_area_row_in (aCons (fO (eRd 0)) aNil)))) (sSeq sBad sNx) sNx) sNx)
def B_require_row : Gam → Out R := fnB 0 s_require_row
theorem ok_require_row (B : Blt mg) (h : Here K mg "require_row" 16) (H_is_area_row_in : Has P w K mg base 3 "is_area_row_in" 1 F_is_area_row_in) : Has P w K mg base 4 "require_row" 1 B_require_row := by
  obtain ⟨f, fd, FP, g⟩ := h.ex
  obtain ⟨f_is_area_row_in, fd_is_area_row_in, ps_is_area_row_in, O_is_area_row_in, g_is_area_row_in, k_is_area_row_in, b_is_area_row_in⟩ := H_is_area_row_in.ex
  have nd := sc_require_row.nd
  refine ⟨f, fd, ["value"], FP.ok (N := N_require_row) sc_require_row (fun vs H Q E h => h.1) (fun cdv A outer s H vs Q E hr h => ⟨_, PSs.nox ?_, fn_reads (N := N_require_row) (m := 0) rfl vs Q E h⟩), g, FP.kp, FP.bindsN fun _ _ _ _ _ _ us hl => match us, hl with | [_], _ => rfl⟩
  exact (tps_cons (tps_if (tpt_not (tv (cu O_is_area_row_in hr g_is_area_row_in k_is_area_row_in b_is_area_row_in (a1 (to_val (rd 0)) tpa_nil)))) (tps_cons tps_never tps_nil) tps_nil) tps_nil)
abbrev F_require_row := B_require_row
def s_rises_in : Gam → OutS := (sSeq (sRet (eCall bTuple (aCons (fO (eLc (mRng1 (aCons (fO (eCall bLen (aCons (oSl 0) aNil))) aNil)) [1] (gNm 1) (toT (eCallN 2 F_does_climb (aCons (fO (eRd 0)) (aCons (fO (eRd 1)) aNil)))) (fO (eRd 1)))) aNil))) sNx)
def B_rises_in : Gam → Out R := fnB 1 s_rises_in
theorem ok_rises_in (B : Blt mg) (h : Here K mg "rises_in" 19) (H_does_climb : Has P w K mg base 1 "does_climb" 2 F_does_climb) : Has P w K mg base 2 "rises_in" 1 B_rises_in := by
  obtain ⟨f, fd, FP, g⟩ := h.ex
  obtain ⟨f_does_climb, fd_does_climb, ps_does_climb, O_does_climb, g_does_climb, k_does_climb, b_does_climb⟩ := H_does_climb.ex
  have nd := sc_rises_in.nd
  refine ⟨f, fd, ["row"], FP.ok (N := N_rises_in) sc_rises_in (fun vs H Q E h => h.1) (fun cdv A outer s H vs Q E hr h => ⟨_, PSs.nox ?_, fn_reads (N := N_rises_in) (m := 1) rfl vs Q E h⟩), g, FP.kp, FP.bindsN fun _ _ _ _ _ _ us hl => match us, hl with | [_], _ => rfl⟩
  exact (tps_cons (tps_ret (ct call_tuple_of (ok_tuple rfl) B.tuple rfl (a1 (to_val (tpe_lc (own := [("index", 1)]) rfl nd (r1 B.range (a1 (to_val (cb call_len_seq (ok_len rfl) B.len rfl (a1 (sl 0) tpa_nil))) tpa_nil)) (blkOk_by (N := N_rises_in) (sc := defScope (top 19)) (own := [("index", 1)]) (by decide +kernel)) (fun _ _ _ _ _ => (gn 1 nd)) (fun _ _ _ _ _ => (tpts_one (tv (cu O_does_climb hr g_does_climb k_does_climb b_does_climb (a1 (to_val (rd 0)) (a1 (to_val (rd 1)) tpa_nil)))))) (fun _ _ _ _ _ => (to_val (rd 1))) (by intro _; rfl) (by decide))) tpa_nil))) tps_nil)
abbrev F_rises_in := B_rises_in
def s_tuples_from : Gam → OutS := (sSeq (sSet 2 (eLst (aCons (fO (eTup aNil)) aNil))) (sSeq (sFor (mRng1 (aCons (oSl 1) aNil)) (gNm 3) (sSeq (sSet 2 (eLc2 (mIter (fO (eRd 2))) [4, 5] (gNm 4) mYes (mIter (fO (eRd 0))) [5] (gNm 5) (bOr (toT (eOp (fEq false) (oSl 4) (fO (eTup aNil)))) (toT (eOp fGt (oSl 5) (fO (eOp fIx (oSl 4) (fO (eNeg (fO (eC (.int 1)))))))))) (fO (eTup (aStar (fO (eRd 4)) (aCons (fO (eRd 5)) aNil)))))) sNx)) (sSeq (sRet (eMv 2)) sNx)))
def B_tuples_from : Gam → Out R := fnB 4 s_tuples_from
theorem ok_tuples_from (B : Blt mg) (h : Here K mg "tuples_from" 20) : Has P w K mg base 1 "tuples_from" 2 B_tuples_from := by
  obtain ⟨f, fd, FP, g⟩ := h.ex
  have nd := sc_tuples_from.nd
  refine ⟨f, fd, ["some", "many"], FP.ok (N := N_tuples_from) sc_tuples_from (fun vs H Q E h => h.1) (fun cdv A outer s H vs Q E hr h => ⟨_, PSs.nox ?_, fn_reads (N := N_tuples_from) (m := 4) rfl vs Q E h⟩), g, FP.kp, FP.bindsN fun _ _ _ _ _ _ us hl => match us, hl with | [_, _], _ => rfl⟩
  exact (tps_cons (stv 2 nd (tpe_lst (a1 (to_val (tpe_tup tpa_nil)) tpa_nil))) (tps_cons (fr PassesOwn.never rfl (r1 B.range (a1 (sl 1) tpa_nil)) (gn 3 nd) (tps_cons (tps_setLc2 (i := 2) (own := [("begun", 4), ("one", 5)]) (vs1 := [5]) rfl nd rfl rfl (sw_true rfl rfl rfl (by decide +kernel)) (tpi_seq rfl (to_val (rd 2))) (blkOk_by (N := N_tuples_from) (sc := defScope (top 20)) (own := [("begun", 4), ("one", 5)]) (by decide +kernel)) (by decide) (fun _ _ _ _ _ => (gn 4 nd)) (fun _ _ _ _ _ => tpts_nil) (fun _ _ _ _ _ => (tpi_seq rfl (to_val (rd 0)))) (fun _ _ _ _ _ => (gn 5 nd)) (fun _ _ _ _ _ => (tpts_one (PW.pt (tpw_or (cmT (op_eqD hr.units) (ok_eq rfl) (sl 4) (to_val (tpe_tup tpa_nil))) (tpw_or1 (cmT op_gt ok_gt (sl 5) (to_val (tpe_ix rfl (sl 4) (to_val (tpe_neg (to_val cI))) (fun _ _ => rfl))))))))) (fun _ _ _ _ _ => (to_val (tpe_tup (aS rfl (to_val (rd 4)) (a1 (to_val (rd 5)) tpa_nil))))) (by intro _; rfl) (by intro _ _; rfl) (by decide) (by decide)) tps_nil)) (tps_cons (tps_ret (mv 2)) tps_nil)))
abbrev F_tuples_from := B_tuples_from
def s_are_marks_in : Gam → OutS := (sSeq (sIf (bOr (bNot (toT (eCall bIsi (aCons (oSl 1) (aCons (fO (eC (.ty "tuple"))) aNil))))) (bNot (toT (eCall bAll (aCons (fO (eLc (mIter (fO (eRd 1))) [3] (gNm 3) mYes (fO (eCallN 3 F_is_within (aCons (fO (eRd 3)) (aCons (fO (eC (.int 1))) (aCons (fO (eOp fSub (fO (eCall bLen (aCons (oSl 0) aNil))) (fO (eC (.int 1))))) aNil))))))) aNil))))) (sSeq (sRet (eC (.bl false))) sNx) sNx) (sSeq (sSet 2 (eCallN 1 F_rises_in (aCons (fO (eRd 0)) aNil))) (sSeq (sIf (bNot (toT (eCall bAll (aCons (fO (eLc (mIter (fO (eRd 1))) [3] (gNm 3) mYes (fO (eOp (fIn false) (oSl 3) (oSl 2))))) aNil)))) (sSeq (sRet (eC (.bl false))) sNx) sNx) (sSeq (sRet (eCall bAll (aCons (fO (eLc (mZip (aCons (fO (eRd 1)) (aCons (fO (eSl (oSl 1) (pSome (fO (eC (.int 1)))) pNone)) aNil))) [3, 4] (gTp 2 (gsCons (gNm 3) (gsCons (gNm 4) gsNil))) mYes (fO (eOp fLt (oSl 3) (oSl 4))))) aNil))) sNx))))
def B_are_marks_in : Gam → Out R := fnB 3 s_are_marks_in
theorem ok_are_marks_in (B : Blt mg) (h : Here K mg "are_marks_in" 21) (H_rises_in : Has P w K mg base 2 "rises_in" 1 F_rises_in) (H_is_within : Has P w K mg base 2 "is_within" 3 F_is_within) : Has P w K mg base 3 "are_marks_in" 2 B_are_marks_in := by
  obtain ⟨f, fd, FP, g⟩ := h.ex
  obtain ⟨f_rises_in, fd_rises_in, ps_rises_in, O_rises_in, g_rises_in, k_rises_in, b_rises_in⟩ := H_rises_in.ex
  obtain ⟨f_is_within, fd_is_within, ps_is_within, O_is_within, g_is_within, k_is_within, b_is_within⟩ := H_is_within.ex
  have nd := sc_are_marks_in.nd
  refine ⟨f, fd, ["row", "value"], FP.ok (N := N_are_marks_in) sc_are_marks_in (fun vs H Q E h => h.1) (fun cdv A outer s H vs Q E hr h => ⟨_, PSs.nox ?_, fn_reads (N := N_are_marks_in) (m := 3) rfl vs Q E h⟩), g, FP.kp, FP.bindsN fun _ _ _ _ _ _ us hl => match us, hl with | [_, _], _ => rfl⟩
  exact (tps_cons (tps_if (PW.pt (tpw_or (tpt_not (tv (cb call_isi (ok_isi rfl) B.isinstance rfl (a1 (sl 1) (a1 (to_val (bT B.tuple rfl)) tpa_nil))))) (tpw_or1 (tpt_not (tv (cb (cr_all rfl) ok_all B.all rfl (a1 (to_val (tpe_lc (own := [("one", 3)]) rfl nd (tpi_seq rfl (to_val (rd 1))) (blkOk_by (N := N_are_marks_in) (sc := defScope (top 21)) (own := [("one", 3)]) (by decide +kernel)) (fun _ _ _ _ _ => (gn 3 nd)) (fun _ _ _ _ _ => tpts_nil) (fun _ _ _ _ _ => (to_val (cu O_is_within hr g_is_within k_is_within b_is_within (a1 (to_val (rd 3)) (a1 (to_val cI) (a1 (to_val (tpe_op op_sub ok_sub (to_val (cb call_len_seq (ok_len rfl) B.len rfl (a1 (sl 0) tpa_nil))) (to_val cI))) tpa_nil)))))) (by intro _; rfl) (by decide))) tpa_nil))))))) (tps_cons (tps_ret cB) tps_nil) tps_nil) (tps_cons (stv 2 nd (cu O_rises_in hr g_rises_in k_rises_in b_rises_in (a1 (to_val (rd 0)) tpa_nil))) (tps_cons (tps_if (tpt_not (tv (cb (cr_all rfl) ok_all B.all rfl (a1 (to_val (tpe_lc (own := [("one", 3)]) rfl nd (tpi_seq rfl (to_val (rd 1))) (blkOk_by (N := N_are_marks_in) (sc := defScope (top 21)) (own := [("one", 3)]) (by decide +kernel)) (fun _ _ _ _ _ => (gn 3 nd)) (fun _ _ _ _ _ => tpts_nil) (fun _ _ _ _ _ => (to_val (cm op_in_seq (ok_in rfl false) (sl 3) (sl 2)))) (by intro _; rfl) (by decide))) tpa_nil)))) (tps_cons (tps_ret cB) tps_nil) tps_nil) (tps_cons (tps_ret (cb (cr_all rfl) ok_all B.all rfl (a1 (to_val (tpe_lc (own := [("one", 3), ("later", 4)]) rfl nd (zp rfl B.zip (a1 (to_val (rd 1)) (a1 (to_val (tpe_slice rfl (sl 1) (tpo_some (to_val cI)) tpo_none)) tpa_nil))) (blkOk_by (N := N_are_marks_in) (sc := defScope (top 21)) (own := [("one", 3), ("later", 4)]) (by decide +kernel)) (fun _ _ _ _ _ => (gt rfl rfl (gc (gn 3 nd) (gc (gn 4 nd) tpgs_nil)))) (fun _ _ _ _ _ => tpts_nil) (fun _ _ _ _ _ => (to_val (cm op_lt ok_lt (sl 3) (sl 4)))) (by intro _; rfl) (by decide))) tpa_nil))) tps_nil))))
abbrev F_are_marks_in := B_are_marks_in
def s_marked_pairs_in : Gam → OutS := (sSeq (sRet (eLc2 (mIter (fO (eCallN 1 F_area_rows_in (aCons (fO (eRd 0)) aNil)))) [2, 3] (gNm 2) mYes (mIter (fO (eCallN 2 F_tuples_from (aCons (fO (eCallN 1 F_rises_in (aCons (fO (eRd 2)) aNil))) (aCons (fO (eRd 1)) aNil))))) [3] (gNm 3) mYes (fO (eTup (aCons (fO (eRd 2)) (aCons (fO (eRd 3)) aNil)))))) sNx)
def B_marked_pairs_in : Gam → Out R := fnB 2 s_marked_pairs_in
theorem ok_marked_pairs_in (B : Blt mg) (h : Here K mg "marked_pairs_in" 22) (H_area_rows_in : Has P w K mg base 1 "area_rows_in" 1 F_area_rows_in) (H_tuples_from : Has P w K mg base 1 "tuples_from" 2 F_tuples_from) (H_rises_in : Has P w K mg base 2 "rises_in" 1 F_rises_in) : Has P w K mg base 3 "marked_pairs_in" 2 B_marked_pairs_in := by
  obtain ⟨f, fd, FP, g⟩ := h.ex
  obtain ⟨f_area_rows_in, fd_area_rows_in, ps_area_rows_in, O_area_rows_in, g_area_rows_in, k_area_rows_in, b_area_rows_in⟩ := H_area_rows_in.ex
  obtain ⟨f_tuples_from, fd_tuples_from, ps_tuples_from, O_tuples_from, g_tuples_from, k_tuples_from, b_tuples_from⟩ := H_tuples_from.ex
  obtain ⟨f_rises_in, fd_rises_in, ps_rises_in, O_rises_in, g_rises_in, k_rises_in, b_rises_in⟩ := H_rises_in.ex
  have nd := sc_marked_pairs_in.nd
  refine ⟨f, fd, ["size", "many"], FP.ok (N := N_marked_pairs_in) sc_marked_pairs_in (fun vs H Q E h => h.1) (fun cdv A outer s H vs Q E hr h => ⟨_, PSs.nox ?_, fn_reads (N := N_marked_pairs_in) (m := 2) rfl vs Q E h⟩), g, FP.kp, FP.bindsN fun _ _ _ _ _ _ us hl => match us, hl with | [_, _], _ => rfl⟩
  exact (tps_cons (tps_ret (tpe_lc2 (own := [("row", 2), ("marks", 3)]) (vs1 := [3]) rfl nd (tpi_seq rfl (to_val (cu O_area_rows_in hr g_area_rows_in k_area_rows_in b_area_rows_in (a1 (to_val (rd 0)) tpa_nil)))) (blkOk_by (N := N_marked_pairs_in) (sc := defScope (top 22)) (own := [("row", 2), ("marks", 3)]) (by decide +kernel)) (by decide) (fun _ _ _ _ _ => (gn 2 nd)) (fun _ _ _ _ _ => tpts_nil) (fun _ _ _ _ _ => (tpi_seq rfl (to_val (cu O_tuples_from hr g_tuples_from k_tuples_from b_tuples_from (a1 (to_val (cu O_rises_in hr g_rises_in k_rises_in b_rises_in (a1 (to_val (rd 2)) tpa_nil))) (a1 (to_val (rd 1)) tpa_nil)))))) (fun _ _ _ _ _ => (gn 3 nd)) (fun _ _ _ _ _ => tpts_nil) (fun _ _ _ _ _ => (to_val (tpe_tup (a1 (to_val (rd 2)) (a1 (to_val (rd 3)) tpa_nil))))) (by intro _; rfl) (by intro _ _; rfl) (by decide) (by decide))) tps_nil)
abbrev F_marked_pairs_in := B_marked_pairs_in
def s_marked_entries : Gam → OutS := (sSeq (sRet (eCall bSum (aCons (fO (eLc (mIter (fO (eRd 1))) [2] (gNm 2) mYes (fO (eOp fIx (oSl 0) (oSl 2))))) aNil))) sNx)
def B_marked_entries : Gam → Out R := fnB 1 s_marked_entries
theorem ok_marked_entries (B : Blt mg) (h : Here K mg "marked_entries" 23) : Has P w K mg base 1 "marked_entries" 2 B_marked_entries := by
  obtain ⟨f, fd, FP, g⟩ := h.ex
  have nd := sc_marked_entries.nd
  refine ⟨f, fd, ["row", "marks"], FP.ok (N := N_marked_entries) sc_marked_entries (fun vs H Q E h => h.1) (fun cdv A outer s H vs Q E hr h => ⟨_, PSs.nox ?_, fn_reads (N := N_marked_entries) (m := 1) rfl vs Q E h⟩), g, FP.kp, FP.bindsN fun _ _ _ _ _ _ us hl => match us, hl with | [_, _], _ => rfl⟩
  exact (tps_cons (tps_ret (cb (cr_sumB rfl) (ok_sum rfl) B.sum rfl (a1 (to_val (tpe_lc (own := [("index", 2)]) rfl nd (tpi_seq rfl (to_val (rd 1))) (blkOk_by (N := N_marked_entries) (sc := defScope (top 23)) (own := [("index", 2)]) (by decide +kernel)) (fun _ _ _ _ _ => (gn 2 nd)) (fun _ _ _ _ _ => tpts_nil) (fun _ _ _ _ _ => (to_val (tpe_ix rfl (sl 0) (sl 2) (fun _ _ => rfl)))) (by intro _; rfl) (by decide))) tpa_nil))) tps_nil)
abbrev F_marked_entries := B_marked_entries
def s_require_marks : Gam → OutS := (sSeq (sExpr (eCallN 1 F_require_row (aCons (fO (eRd 0)) aNil))) (sSeq (sIf (bNot (toT (eCallN 2 F_are_marks_in (aCons (fO (eRd 0)) (aCons (fO (eRd 1)) aNil))))) (sSeq sBad sNx) sNx) sNx))
def B_require_marks : Gam → Out R := fnB 0 s_require_marks
theorem ok_require_marks (B : Blt mg) (h : Here K mg "require_marks" 24) (H_are_marks_in : Has P w K mg base 3 "are_marks_in" 2 F_are_marks_in) (H_require_row : Has P w K mg base 4 "require_row" 1 F_require_row) : Has P w K mg base 5 "require_marks" 2 B_require_marks := by
  obtain ⟨f, fd, FP, g⟩ := h.ex
  obtain ⟨f_are_marks_in, fd_are_marks_in, ps_are_marks_in, O_are_marks_in, g_are_marks_in, k_are_marks_in, b_are_marks_in⟩ := H_are_marks_in.ex
  obtain ⟨f_require_row, fd_require_row, ps_require_row, O_require_row, g_require_row, k_require_row, b_require_row⟩ := H_require_row.ex
  have nd := sc_require_marks.nd
  refine ⟨f, fd, ["row", "marks"], FP.ok (N := N_require_marks) sc_require_marks (fun vs H Q E h => h.1) (fun cdv A outer s H vs Q E hr h => ⟨_, PSs.nox ?_, fn_reads (N := N_require_marks) (m := 0) rfl vs Q E h⟩), g, FP.kp, FP.bindsN fun _ _ _ _ _ _ us hl => match us, hl with | [_, _], _ => rfl⟩
  exact (tps_cons (sx (cu O_require_row hr g_require_row k_require_row b_require_row (a1 (to_val (rd 0)) tpa_nil))) (tps_cons (tps_if (tpt_not (tv (cu O_are_marks_in hr g_are_marks_in k_are_marks_in b_are_marks_in (a1 (to_val (rd 0)) (a1 (to_val (rd 1)) tpa_nil))))) (tps_cons tps_never tps_nil) tps_nil) tps_nil))
abbrev F_require_marks := B_require_marks
def s_require_size_and_many : Gam → OutS := (sSeq (sIf (bNot (toT (eCallN 3 F_is_within (aCons (fO (eRd 0)) (aCons (fO (eC (.int 1))) (aCons (fO (eRd 2)) aNil)))))) (sSeq sBad sNx) sNx) (sSeq (sIf (bNot (toT (eCallN 3 F_is_within (aCons (fO (eRd 1)) (aCons (fO (eC (.int 0))) (aCons (fO (eOp fSub (oSl 0) (fO (eC (.int 1))))) aNil)))))) (sSeq sBad sNx) sNx) sNx))
def B_require_size_and_many : Gam → Out R := fnB 0 s_require_size_and_many
theorem ok_require_size_and_many (B : Blt mg) (h : Here K mg "require_size_and_many" 25) (H_is_within : Has P w K mg base 2 "is_within" 3 F_is_within) : Has P w K mg base 3 "require_size_and_many" 3 B_require_size_and_many := by
  obtain ⟨f, fd, FP, g⟩ := h.ex
  obtain ⟨f_is_within, fd_is_within, ps_is_within, O_is_within, g_is_within, k_is_within, b_is_within⟩ := H_is_within.ex
  have nd := sc_require_size_and_many.nd
  refine ⟨f, fd, ["size", "many", "most"], FP.ok (N := N_require_size_and_many) sc_require_size_and_many (fun vs H Q E h => h.1) (fun cdv A outer s H vs Q E hr h => ⟨_, PSs.nox ?_, fn_reads (N := N_require_size_and_many) (m := 0) rfl vs Q E h⟩), g, FP.kp, FP.bindsN fun _ _ _ _ _ _ us hl => match us, hl with | [_, _, _], _ => rfl⟩
  exact (tps_cons (tps_if (tpt_not (tv (cu O_is_within hr g_is_within k_is_within b_is_within (a1 (to_val (rd 0)) (a1 (to_val cI) (a1 (to_val (rd 2)) tpa_nil)))))) (tps_cons tps_never tps_nil) tps_nil) (tps_cons (tps_if (tpt_not (tv (cu O_is_within hr g_is_within k_is_within b_is_within (a1 (to_val (rd 1)) (a1 (to_val cI) (a1 (to_val (tpe_op op_sub ok_sub (sl 0) (to_val cI))) tpa_nil)))))) (tps_cons tps_never tps_nil) tps_nil) tps_nil))
abbrev F_require_size_and_many := B_require_size_and_many
def s_rises : Gam → OutS := (sSeq (sExpr (eCallN 1 F_require_row (aCons (fO (eRd 0)) aNil))) (sSeq (sRet (eCallN 1 F_rises_in (aCons (fO (eRd 0)) aNil))) sNx))
def B_rises : Gam → Out R := fnB 0 s_rises
theorem ok_rises (B : Blt mg) (h : Here K mg "rises" 26) (H_rises_in : Has P w K mg base 2 "rises_in" 1 F_rises_in) (H_require_row : Has P w K mg base 4 "require_row" 1 F_require_row) : Has P w K mg base 5 "rises" 1 B_rises := by
  obtain ⟨f, fd, FP, g⟩ := h.ex
  obtain ⟨f_rises_in, fd_rises_in, ps_rises_in, O_rises_in, g_rises_in, k_rises_in, b_rises_in⟩ := H_rises_in.ex
  obtain ⟨f_require_row, fd_require_row, ps_require_row, O_require_row, g_require_row, k_require_row, b_require_row⟩ := H_require_row.ex
  have nd := sc_rises.nd
  refine ⟨f, fd, ["row"], FP.ok (N := N_rises) sc_rises (fun vs H Q E h => h.1) (fun cdv A outer s H vs Q E hr h => ⟨_, PSs.nox ?_, fn_reads (N := N_rises) (m := 0) rfl vs Q E h⟩), g, FP.kp, FP.bindsN fun _ _ _ _ _ _ us hl => match us, hl with | [_], _ => rfl⟩
  exact (tps_cons (sx (cu O_require_row hr g_require_row k_require_row b_require_row (a1 (to_val (rd 0)) tpa_nil))) (tps_cons (tps_ret (cu O_rises_in hr g_rises_in k_rises_in b_rises_in (a1 (to_val (rd 0)) tpa_nil))) tps_nil))
abbrev F_rises := B_rises
def s_are_marks : Gam → OutS := (sSeq (sExpr (eCallN 1 F_require_row (aCons (fO (eRd 0)) aNil))) (sSeq (sRet (eCallN 2 F_are_marks_in (aCons (fO (eRd 0)) (aCons (fO (eRd 1)) aNil)))) sNx))
def B_are_marks : Gam → Out R := fnB 0 s_are_marks
theorem ok_are_marks (B : Blt mg) (h : Here K mg "are_marks" 27) (H_are_marks_in : Has P w K mg base 3 "are_marks_in" 2 F_are_marks_in) (H_require_row : Has P w K mg base 4 "require_row" 1 F_require_row) : Has P w K mg base 5 "are_marks" 2 B_are_marks := by
  obtain ⟨f, fd, FP, g⟩ := h.ex
  obtain ⟨f_are_marks_in, fd_are_marks_in, ps_are_marks_in, O_are_marks_in, g_are_marks_in, k_are_marks_in, b_are_marks_in⟩ := H_are_marks_in.ex
  obtain ⟨f_require_row, fd_require_row, ps_require_row, O_require_row, g_require_row, k_require_row, b_require_row⟩ := H_require_row.ex
  have nd := sc_are_marks.nd
  refine ⟨f, fd, ["row", "value"], FP.ok (N := N_are_marks) sc_are_marks (fun vs H Q E h => h.1) (fun cdv A outer s H vs Q E hr h => ⟨_, PSs.nox ?_, fn_reads (N := N_are_marks) (m := 0) rfl vs Q E h⟩), g, FP.kp, FP.bindsN fun _ _ _ _ _ _ us hl => match us, hl with | [_, _], _ => rfl⟩
  exact (tps_cons (sx (cu O_require_row hr g_require_row k_require_row b_require_row (a1 (to_val (rd 0)) tpa_nil))) (tps_cons (tps_ret (cu O_are_marks_in hr g_are_marks_in k_are_marks_in b_are_marks_in (a1 (to_val (rd 0)) (a1 (to_val (rd 1)) tpa_nil)))) tps_nil))
abbrev F_are_marks := B_are_marks
def B_marked_rows : Gam → Out (List D) := fnG 1 (sExpr (eCallN 3 F_require_size_and_many (aCons (fO (eRd 0)) (aCons (fO (eRd 1)) (aCons (fO (eC (.int 6))) aNil))))) (mIter (fO (eCallN 2 F_marked_pairs_in (aCons (fO (eRd 0)) (aCons (fO (eRd 1)) aNil))))) (gNm 2) (eRd 2)
theorem ok_marked_rows (B : Blt mg) (h : Here K mg "marked_rows" 28) (H_require_size_and_many : Has P w K mg base 3 "require_size_and_many" 3 F_require_size_and_many) (H_marked_pairs_in : Has P w K mg base 3 "marked_pairs_in" 2 F_marked_pairs_in) : HasG P w K mg base 4 "marked_rows" 2 B_marked_rows := by
  obtain ⟨f, fd, FP, g⟩ := h.ex
  obtain ⟨f_require_size_and_many, fd_require_size_and_many, ps_require_size_and_many, O_require_size_and_many, g_require_size_and_many, k_require_size_and_many, b_require_size_and_many⟩ := H_require_size_and_many.ex
  obtain ⟨f_marked_pairs_in, fd_marked_pairs_in, ps_marked_pairs_in, O_marked_pairs_in, g_marked_pairs_in, k_marked_pairs_in, b_marked_pairs_in⟩ := H_marked_pairs_in.ex
  have nd := sc_marked_rows.nd
  obtain ⟨oc, od, dV, kV, doc, pm, an, cdv, ct, osl, e, lk, hcd, _, _⟩ := FP.ex
  have bb : Binds K fd ["size", "many"] [] := FP.bindsN fun _ _ _ _ _ _ us hl => match us, hl with | [_, _], _ => rfl
  subst e
  refine ⟨f, _, ["size", "many"], gfn_of lk hcd sc_marked_rows (fun vs H Q E h => h.1) (fun A outer s H vs Q E pn hr h => ⟨_, ?_, gen_reads (N := N_marked_rows) (S := [2]) (m := 1) rfl vs Q E h⟩), g, FP.kp, bb⟩
  exact gss_gen owns_gcx rfl (sx (cu O_require_size_and_many hr g_require_size_and_many k_require_size_and_many b_require_size_and_many (a1 (to_val (rd 0)) (a1 (to_val (rd 1)) (a1 (to_val (gI B.MOST_ROWED)) tpa_nil))))) (tpi_seq rfl (to_val (cu O_marked_pairs_in hr g_marked_pairs_in k_marked_pairs_in b_marked_pairs_in (a1 (to_val (rd 0)) (a1 (to_val (rd 1)) tpa_nil))))) (gn 2 nd) (rd 2) (by intro _; rfl) rfl rfl
abbrev F_marked_rows := B_marked_rows
def s_marked_counts : Gam → OutS := (sSeq (sExpr (eCallN 2 F_require_marks (aCons (fO (eRd 0)) (aCons (fO (eRd 1)) aNil)))) (sSeq (sIf (bNot (toT (eCallN 2 F_is_labelled_in (aCons (fO (eRd 0)) (aCons (fO (eRd 2)) aNil))))) (sSeq sBad sNx) sNx) (sSeq (sAsg (fO (eCallN 2 F_path_counts_in (aCons (fO (eRd 0)) (aCons (fO (eRd 2)) aNil)))) (gTp 2 (gsCons (gNm 3) (gsCons (gNm 4) gsNil)))) (sSeq (sRet (eTup (aCons (fO (eOp fSub (oSl 3) (fO (eCallN 2 F_marked_entries (aCons (fO (eRd 0)) (aCons (fO (eRd 1)) aNil)))))) (aCons (fO (eRd 4)) aNil)))) sNx))))
def B_marked_counts : Gam → Out R := fnB 2 s_marked_counts
theorem ok_marked_counts (B : Blt mg) (h : Here K mg "marked_counts" 29) (H_marked_entries : Has P w K mg base 1 "marked_entries" 2 F_marked_entries) (H_path_counts_in : Has P w K mg base 2 "path_counts_in" 2 F_path_counts_in) (H_is_labelled_in : Has P w K mg base 3 "is_labelled_in" 2 F_is_labelled_in) (H_require_marks : Has P w K mg base 5 "require_marks" 2 F_require_marks) : Has P w K mg base 6 "marked_counts" 3 B_marked_counts := by
  obtain ⟨f, fd, FP, g⟩ := h.ex
  obtain ⟨f_marked_entries, fd_marked_entries, ps_marked_entries, O_marked_entries, g_marked_entries, k_marked_entries, b_marked_entries⟩ := H_marked_entries.ex
  obtain ⟨f_path_counts_in, fd_path_counts_in, ps_path_counts_in, O_path_counts_in, g_path_counts_in, k_path_counts_in, b_path_counts_in⟩ := H_path_counts_in.ex
  obtain ⟨f_is_labelled_in, fd_is_labelled_in, ps_is_labelled_in, O_is_labelled_in, g_is_labelled_in, k_is_labelled_in, b_is_labelled_in⟩ := H_is_labelled_in.ex
  obtain ⟨f_require_marks, fd_require_marks, ps_require_marks, O_require_marks, g_require_marks, k_require_marks, b_require_marks⟩ := H_require_marks.ex
  have nd := sc_marked_counts.nd
  refine ⟨f, fd, ["row", "marks", "labels"], FP.ok (N := N_marked_counts) sc_marked_counts (fun vs H Q E h => h.1) (fun cdv A outer s H vs Q E hr h => ⟨_, PSs.nox ?_, fn_reads (N := N_marked_counts) (m := 2) rfl vs Q E h⟩), g, FP.kp, FP.bindsN fun _ _ _ _ _ _ us hl => match us, hl with | [_, _, _], _ => rfl⟩
  exact (tps_cons (sx (cu O_require_marks hr g_require_marks k_require_marks b_require_marks (a1 (to_val (rd 0)) (a1 (to_val (rd 1)) tpa_nil)))) (tps_cons (tps_if (tpt_not (tv (cu O_is_labelled_in hr g_is_labelled_in k_is_labelled_in b_is_labelled_in (a1 (to_val (rd 0)) (a1 (to_val (rd 2)) tpa_nil))))) (tps_cons tps_never tps_nil) tps_nil) (tps_cons (sa (to_val (cu O_path_counts_in hr g_path_counts_in k_path_counts_in b_path_counts_in (a1 (to_val (rd 0)) (a1 (to_val (rd 2)) tpa_nil)))) (gt rfl rfl (gc (gn 3 nd) (gc (gn 4 nd) tpgs_nil)))) (tps_cons (tps_ret (tpe_tup (a1 (to_val (tpe_op op_sub ok_sub (sl 3) (to_val (cu O_marked_entries hr g_marked_entries k_marked_entries b_marked_entries (a1 (to_val (rd 0)) (a1 (to_val (rd 1)) tpa_nil)))))) (a1 (to_val (rd 4)) tpa_nil)))) tps_nil))))
abbrev F_marked_counts := B_marked_counts
def s_law_dice : Gam → OutS := (sSeq (sSet 2 (eOp fAdd (fO (eOp fMul (fO (eC (.int 113))) (oSl 1))) (fO (eC (.int 71))))) (sSeq (sIf (toT (eOp fLt (oSl 1) (fO (eCall bLen (aCons (oSl 0) aNil))))) (sSeq (sSet 2 (eOp fIx (oSl 0) (oSl 1))) sNx) sNx) (sSeq (sSet 3 (eOp fMod (fO (eCall bInt (aCons (fO (eCall bAbs (aCons (oSl 2) aNil))) aNil))) (fO (eOp fPow (fO (eOp fPow (fO (eC (.int 10))) (fO (eC (.int 61))))) (fO (eC (.int 10))))))) (sSeq (sSet 4 (eOp fDiv (oSl 3) (fO (eOp fPow (fO (eC (.int 10))) (fO (eC (.int 18))))))) (sSeq (sSet 5 (eOp fAdd (fO (eOp fAdd (fO (eOp fAdd (fO (eOp fMul (fO (eOp fMod (oSl 3) (fO (eC (.int 2147482417))))) (fO (eC (.int 70001))))) (fO (eOp fMul (fO (eC (.int 4099))) (oSl 1))))) (fO (eOp fMul (fO (eC (.int 113))) (fO (eCall bInt (aCons (fO (eOp fLt (oSl 2) (fO (eC (.int 0))))) aNil))))))) (fO (eC (.int 149))))) (sSeq (sRet (eLst (aCons (fO (eRd 4)) (aCons (fO (eOp fMod (oSl 5) (fO (eC (.int 2147482409))))) (aCons (fO (eC (.int 0))) aNil))))) sNx))))))
def B_law_dice : Gam → Out R := fnB 4 s_law_dice
theorem ok_law_dice (B : Blt mg) (h : Here K mg "_law_dice" 31) : Has P w K mg base 1 "_law_dice" 2 B_law_dice := by
  obtain ⟨f, fd, FP, g⟩ := h.ex
  have nd := sc_law_dice.nd
  refine ⟨f, fd, ["script", "at"], FP.ok (N := N_law_dice) sc_law_dice (fun vs H Q E h => h.1) (fun cdv A outer s H vs Q E hr h => ⟨_, PSs.nox ?_, fn_reads (N := N_law_dice) (m := 4) rfl vs Q E h⟩), g, FP.kp, FP.bindsN fun _ _ _ _ _ _ us hl => match us, hl with | [_, _], _ => rfl⟩
  exact (tps_cons (stv 2 nd (tpe_op op_addA (ok_add rfl) (to_val (tpe_op op_mulW ok_mul (to_val cI) (sl 1))) (to_val cI))) (tps_cons (tps_if (cmT op_lt ok_lt (sl 1) (to_val (cb call_len_seq (ok_len rfl) B.len rfl (a1 (sl 0) tpa_nil)))) (tps_cons (stv 2 nd (tpe_ix rfl (sl 0) (sl 1) (fun _ _ => rfl))) tps_nil) tps_nil) (tps_cons (stv 3 nd (tpe_op op_mod ok_mod (to_val (ct call_int1 ok_intc B.int rfl (a1 (to_val (cb call_abs ok_abs B.abs rfl (a1 (sl 2) tpa_nil))) tpa_nil))) (to_val (tpe_op op_powW ok_pow (to_val (tpe_op op_powW ok_pow (to_val cI) (to_val cI))) (to_val cI))))) (tps_cons (stv 4 nd (tpe_op op_fdivW ok_div (sl 3) (to_val (tpe_op op_powW ok_pow (to_val cI) (to_val cI))))) (tps_cons (stv 5 nd (tpe_op op_addA (ok_add rfl) (to_val (tpe_op op_addA (ok_add rfl) (to_val (tpe_op op_addA (ok_add rfl) (to_val (tpe_op op_mulW ok_mul (to_val (tpe_op op_mod ok_mod (sl 3) (to_val cI))) (to_val cI))) (to_val (tpe_op op_mulW ok_mul (to_val cI) (sl 1))))) (to_val (tpe_op op_mulW ok_mul (to_val cI) (to_val (ct call_int1 ok_intc B.int rfl (a1 (to_val (cm op_lt ok_lt (sl 2) (to_val cI))) tpa_nil))))))) (to_val cI))) (tps_cons (tps_ret (tpe_lst (a1 (to_val (rd 4)) (a1 (to_val (tpe_op op_mod ok_mod (sl 5) (to_val cI))) (a1 (to_val cI) tpa_nil))))) tps_nil))))))
abbrev F_law_dice := B_law_dice
def s_law_roll : Gam → OutS := (sSeq (sSet 2 (eCall bInt (aCons (oSl 1) aNil))) (sSeq (sIf (toT (eOp fGt (fO (eOp fIx (oSl 0) (fO (eC (.int 0))))) (fO (eC (.int 0))))) (sSeq (sSet 3 (eOp fMod (fO (eOp fIx (oSl 0) (fO (eC (.int 0))))) (oSl 2))) (sSeq (sSetIx 0 (fO (eOp fDiv (fO (eOp fIx (oSl 0) (fO (eC (.int 0))))) (oSl 2))) (fO (eC (.int 0)))) (sSeq (sRet (eCall bInt (aCons (oSl 3) aNil))) sNx))) sNx) (sSeq (sSetIx 0 (fO (eOp fAdd (fO (eOp fIx (oSl 0) (fO (eC (.int 2))))) (fO (eC (.int 1))))) (fO (eC (.int 2)))) (sSeq (sSet 4 (eOp fMod (fO (eOp fAdd (fO (eOp fIx (oSl 0) (fO (eC (.int 1))))) (fO (eOp fMul (fO (eC (.int 1000409))) (fO (eOp fIx (oSl 0) (fO (eC (.int 2))))))))) (fO (eC (.int 2305843009213693951))))) (sSeq (sSet 5 (eOp fAdd (fO (eOp fMul (fO (eOp fMod (fO (eOp fMul (oSl 4) (oSl 4))) (fO (eC (.int 2305843009213693921))))) (oSl 4))) (fO (eOp fMul (fO (eC (.int 9533))) (fO (eOp fIx (oSl 0) (fO (eC (.int 2))))))))) (sSeq (sSet 5 (eOp fMod (oSl 5) (fO (eC (.int 2305843009213693907))))) (sSeq (sRet (eCall bInt (aCons (fO (eOp fMod (fO (eOp fDiv (oSl 5) (fO (eC (.int 4096))))) (oSl 2))) aNil))) sNx)))))))
def B_law_roll : Gam → Out R := fnB 4 s_law_roll
theorem ok_law_roll (B : Blt mg) (h : Here K mg "_law_roll" 32) : Has P w K mg base 1 "_law_roll" 2 B_law_roll := by
  obtain ⟨f, fd, FP, g⟩ := h.ex
  have nd := sc_law_roll.nd
  refine ⟨f, fd, ["dice", "total"], FP.ok (N := N_law_roll) sc_law_roll (fun vs H Q E h => h.1) (fun cdv A outer s H vs Q E hr h => ⟨_, PSs.nox ?_, fn_reads (N := N_law_roll) (m := 4) rfl vs Q E h⟩), g, FP.kp, FP.bindsN fun _ _ _ _ _ _ us hl => match us, hl with | [_, _], _ => rfl⟩
  exact (tps_cons (stv 2 nd (ct call_int1 ok_intc B.int rfl (a1 (sl 1) tpa_nil))) (tps_cons (tps_if (cmT op_gt ok_gt (to_val (tpe_ix rfl (sl 0) (to_val cI) (fun _ _ => rfl))) (to_val cI)) (tps_cons (stv 3 nd (tpe_op op_mod ok_mod (to_val (tpe_ix rfl (sl 0) (to_val cI) (fun _ _ => rfl))) (sl 2))) (tps_cons (si (sl 0) (to_val cI) (to_val (tpe_op op_fdivW ok_div (to_val (tpe_ix rfl (sl 0) (to_val cI) (fun _ _ => rfl))) (sl 2)))) (tps_cons (tps_ret (ct call_int1 ok_intc B.int rfl (a1 (sl 3) tpa_nil))) tps_nil))) tps_nil) (tps_cons (si (sl 0) (to_val cI) (to_val (tpe_op op_addA (ok_add rfl) (to_val (tpe_ix rfl (sl 0) (to_val cI) (fun _ _ => rfl))) (to_val cI)))) (tps_cons (stv 4 nd (tpe_op op_mod ok_mod (to_val (tpe_op op_addA (ok_add rfl) (to_val (tpe_ix rfl (sl 0) (to_val cI) (fun _ _ => rfl))) (to_val (tpe_op op_mulW ok_mul (to_val cI) (to_val (tpe_ix rfl (sl 0) (to_val cI) (fun _ _ => rfl))))))) (to_val cI))) (tps_cons (stv 5 nd (tpe_op op_addA (ok_add rfl) (to_val (tpe_op op_mulW ok_mul (to_val (tpe_op op_mod ok_mod (to_val (tpe_op op_mulW ok_mul (sl 4) (sl 4))) (to_val cI))) (sl 4))) (to_val (tpe_op op_mulW ok_mul (to_val cI) (to_val (tpe_ix rfl (sl 0) (to_val cI) (fun _ _ => rfl))))))) (tps_cons (stv 5 nd (tpe_op op_mod ok_mod (sl 5) (to_val cI))) (tps_cons (tps_ret (ct call_int1 ok_intc B.int rfl (a1 (to_val (tpe_op op_mod ok_mod (to_val (tpe_op op_fdivW ok_div (sl 5) (to_val cI))) (sl 2))) tpa_nil))) tps_nil)))))))
abbrev F_law_roll := B_law_roll
def s_law_one_of : Gam → OutS := (sSeq (sRet (eOp fIx (oSl 1) (fO (eCallN 2 F_law_roll (aCons (oSl 0) (aCons (fO (eCall bLen (aCons (oSl 1) aNil))) aNil)))))) sNx)
def B_law_one_of : Gam → Out R := fnB 0 s_law_one_of
theorem ok_law_one_of (B : Blt mg) (h : Here K mg "_law_one_of" 33) (H_law_roll : Has P w K mg base 1 "_law_roll" 2 F_law_roll) : Has P w K mg base 2 "_law_one_of" 2 B_law_one_of := by
  obtain ⟨f, fd, FP, g⟩ := h.ex
  obtain ⟨f_law_roll, fd_law_roll, ps_law_roll, O_law_roll, g_law_roll, k_law_roll, b_law_roll⟩ := H_law_roll.ex
  have nd := sc_law_one_of.nd
  refine ⟨f, fd, ["dice", "items"], FP.ok (N := N_law_one_of) sc_law_one_of (fun vs H Q E h => h.1) (fun cdv A outer s H vs Q E hr h => ⟨_, PSs.nox ?_, fn_reads (N := N_law_one_of) (m := 0) rfl vs Q E h⟩), g, FP.kp, FP.bindsN fun _ _ _ _ _ _ us hl => match us, hl with | [_, _], _ => rfl⟩
  exact (tps_cons (tps_ret (tpe_ix rfl (sl 1) (to_val (cu O_law_roll hr g_law_roll k_law_roll b_law_roll (a1 (sl 0) (a1 (to_val (cb call_len_seq (ok_len rfl) B.len rfl (a1 (sl 1) tpa_nil))) tpa_nil)))) (fun _ _ => rfl))) tps_nil)
abbrev F_law_one_of := B_law_one_of
def s_law_mixed : Gam → OutS := (sSeq (sPar2 2 3 (eCall bList (aCons (oSl 1) aNil)) (eLst aNil)) (sSeq (fun γ => sWhile (toT (eOp (fEq true) (oSl 2) (fO (eLst aNil)))) (sSeq (sExpr (eMeth 3 fAppend (aCons (fO (eMeth 2 fPopAt (aCons (fO (eCallN 2 F_law_roll (aCons (oSl 0) (aCons (fO (eCall bLen (aCons (oSl 2) aNil))) aNil)))) aNil))) aNil))) sNx) 8 γ) (sSeq (sRet (eMv 3)) sNx)))
def B_law_mixed : Gam → Out R := fnB 2 s_law_mixed
theorem ok_law_mixed (B : Blt mg) (h : Here K mg "_law_mixed" 34) (H_law_roll : Has P w K mg base 1 "_law_roll" 2 F_law_roll) : Has P w K mg base 2 "_law_mixed" 2 B_law_mixed := by
  obtain ⟨f, fd, FP, g⟩ := h.ex
  obtain ⟨f_law_roll, fd_law_roll, ps_law_roll, O_law_roll, g_law_roll, k_law_roll, b_law_roll⟩ := H_law_roll.ex
  have nd := sc_law_mixed.nd
  refine ⟨f, fd, ["dice", "items"], FP.ok (N := N_law_mixed) sc_law_mixed (fun vs H Q E h => h.1) (fun cdv A outer s H vs Q E hr h => ⟨_, PSs.nox ?_, fn_reads (N := N_law_mixed) (m := 2) rfl vs Q E h⟩), g, FP.kp, FP.bindsN fun _ _ _ _ _ _ us hl => match us, hl with | [_, _], _ => rfl⟩
  exact (tps_cons (tps_par2 (i := 2) (j := 3) rfl nd rfl rfl (by decide) rfl rfl (ct call_list_of (ok_list rfl) B.list rfl (a1 (sl 1) tpa_nil)) (tpe_lst tpa_nil) rfl rfl rfl rfl) (tps_cons (tps_while 8 PassesOwn.never (cmT (op_neD hr.units) (ok_ne rfl) (sl 2) (to_val (tpe_lst tpa_nil))) (tps_cons (sx (me PySem.F.slot_list_append PySem.F.type_list_append mt_append ok_append (sl 3) (a1 (to_val (me PySem.F.slot_list_pop PySem.F.type_list_pop mt_popAt ok_popAt (sl 2) (a1 (to_val (cu O_law_roll hr g_law_roll k_law_roll b_law_roll (a1 (sl 0) (a1 (to_val (cb call_len_seq (ok_len rfl) B.len rfl (a1 (sl 2) tpa_nil))) tpa_nil)))) tpa_nil))) tpa_nil))) tps_nil)) (tps_cons (tps_ret (mv 3)) tps_nil)))
abbrev F_law_mixed := B_law_mixed
def s_law_path_counts : Gam → OutS := (sSeq (sSet 2 (eC (.int 0))) (sSeq (sFor (mRng1 (aCons (fO (eCall bLen (aCons (oSl 0) aNil))) aNil)) (gNm 3) (sSeq (sFor (mRng2 (aCons (fO (eOp fAdd (oSl 3) (fO (eC (.int 1))))) (aCons (fO (eCall bLen (aCons (oSl 0) aNil))) aNil))) (gNm 4) (sSeq (sSet 5 (eAnd (eOp (fEq false) (fO (eOp fIx (oSl 0) (oSl 3))) (fO (eOp fIx (oSl 0) (oSl 4)))) (eOp fLt (fO (eOp fIx (oSl 1) (oSl 3))) (fO (eOp fIx (oSl 1) (oSl 4)))))) (sSeq (sSet 2 (eOp fAdd (oSl 2) (fO (eCall bInt (aCons (fO (eOr (eRd 5) (eAnd (eOp (fEq false) (fO (eOp fIx (oSl 0) (oSl 3))) (fO (eOp fAdd (fO (eOp fIx (oSl 0) (oSl 4))) (fO (eC (.int 1)))))) (eOp fGt (fO (eOp fIx (oSl 1) (oSl 3))) (fO (eOp fIx (oSl 1) (oSl 4))))))) aNil))))) sNx))) sNx)) (sSeq (sRet (eTup (aCons (fO (eCall bSum (aCons (oSl 0) aNil))) (aCons (fO (eRd 2)) aNil)))) sNx)))
def B_law_path_counts : Gam → Out R := fnB 4 s_law_path_counts
theorem ok_law_path_counts (B : Blt mg) (h : Here K mg "_law_path_counts" 35) : Has P w K mg base 1 "_law_path_counts" 2 B_law_path_counts := by
  obtain ⟨f, fd, FP, g⟩ := h.ex
  have nd := sc_law_path_counts.nd
  refine ⟨f, fd, ["row", "order"], FP.ok (N := N_law_path_counts) sc_law_path_counts (fun vs H Q E h => h.1) (fun cdv A outer s H vs Q E hr h => ⟨_, PSs.nox ?_, fn_reads (N := N_law_path_counts) (m := 4) rfl vs Q E h⟩), g, FP.kp, FP.bindsN fun _ _ _ _ _ _ us hl => match us, hl with | [_, _], _ => rfl⟩
  exact (tps_cons (stv 2 nd cI) (tps_cons (fr PassesOwn.never rfl (r1 B.range (a1 (to_val (cb call_len_seq (ok_len rfl) B.len rfl (a1 (sl 0) tpa_nil))) tpa_nil)) (gn 3 nd) (tps_cons (fr PassesOwn.never rfl (r2 B.range (a1 (to_val (tpe_op op_addA (ok_add rfl) (sl 3) (to_val cI))) (a1 (to_val (cb call_len_seq (ok_len rfl) B.len rfl (a1 (sl 0) tpa_nil))) tpa_nil))) (gn 4 nd) (tps_cons (stv 5 nd (tpe_and (cm (op_eqD hr.units) (ok_eq rfl) (to_val (tpe_ix rfl (sl 0) (sl 3) (fun _ _ => rfl))) (to_val (tpe_ix rfl (sl 0) (sl 4) (fun _ _ => rfl)))) (tpe_one (cm op_lt ok_lt (to_val (tpe_ix rfl (sl 1) (sl 3) (fun _ _ => rfl))) (to_val (tpe_ix rfl (sl 1) (sl 4) (fun _ _ => rfl))))))) (tps_cons (stv 2 nd (tpe_op op_addA (ok_add rfl) (sl 2) (to_val (ct call_int1 ok_intc B.int rfl (a1 (to_val (tpe_or (rd 5) (tpe_one (tpe_and (cm (op_eqD hr.units) (ok_eq rfl) (to_val (tpe_ix rfl (sl 0) (sl 3) (fun _ _ => rfl))) (to_val (tpe_op op_addA (ok_add rfl) (to_val (tpe_ix rfl (sl 0) (sl 4) (fun _ _ => rfl))) (to_val cI)))) (tpe_one (cm op_gt ok_gt (to_val (tpe_ix rfl (sl 1) (sl 3) (fun _ _ => rfl))) (to_val (tpe_ix rfl (sl 1) (sl 4) (fun _ _ => rfl))))))))) tpa_nil))))) tps_nil))) tps_nil)) (tps_cons (tps_ret (tpe_tup (a1 (to_val (cb (cr_sumB rfl) (ok_sum rfl) B.sum rfl (a1 (sl 0) tpa_nil))) (a1 (to_val (rd 2)) tpa_nil)))) tps_nil)))
abbrev F_law_path_counts := B_law_path_counts
def s_law_area_rows : Gam → OutS := (sSeq (sSet 1 (eLst (aCons (fO (eTup (aCons (fO (eC (.int 0))) aNil))) aNil))) (sSeq (sFor (mRng1 (aCons (fO (eOp fSub (oSl 0) (fO (eC (.int 1))))) aNil)) (gNm 2) (sSeq (sSet 3 (eLst aNil)) (sSeq (sFor (mIter (fO (eRd 1))) (gNm 4) (sSeq (sExpr (eMeth 3 fExtend (aCons (fO (eLc (mRng1 (aCons (fO (eOp fAdd (fO (eOp fIx (oSl 4) (fO (eNeg (fO (eC (.int 1))))))) (fO (eC (.int 2))))) aNil)) [5] (gNm 5) mYes (fO (eOp fAdd (oSl 4) (fO (eTup (aCons (fO (eRd 5)) aNil))))))) aNil))) sNx)) (sSeq (sSet 1 (eMv 3)) sNx)))) (sSeq (sRet (eMv 1)) sNx)))
def B_law_area_rows : Gam → Out R := fnB 5 s_law_area_rows
theorem ok_law_area_rows (B : Blt mg) (h : Here K mg "_law_area_rows" 36) : Has P w K mg base 1 "_law_area_rows" 1 B_law_area_rows := by
  obtain ⟨f, fd, FP, g⟩ := h.ex
  have nd := sc_law_area_rows.nd
  refine ⟨f, fd, ["size"], FP.ok (N := N_law_area_rows) sc_law_area_rows (fun vs H Q E h => h.1) (fun cdv A outer s H vs Q E hr h => ⟨_, PSs.nox ?_, fn_reads (N := N_law_area_rows) (m := 5) rfl vs Q E h⟩), g, FP.kp, FP.bindsN fun _ _ _ _ _ _ us hl => match us, hl with | [_], _ => rfl⟩
  exact (tps_cons (stv 1 nd (tpe_lst (a1 (to_val (tpe_tup (a1 (to_val cI) tpa_nil))) tpa_nil))) (tps_cons (fr PassesOwn.never rfl (r1 B.range (a1 (to_val (tpe_op op_sub ok_sub (sl 0) (to_val cI))) tpa_nil)) (gn 2 nd) (tps_cons (stv 3 nd (tpe_lst tpa_nil)) (tps_cons (fr PassesOwn.never rfl (tpi_seq rfl (to_val (rd 1))) (gn 4 nd) (tps_cons (sx (me PySem.F.slot_list_extend PySem.F.type_list_extend mt_extend ok_extend (sl 3) (a1 (to_val (tpe_lc (own := [("entry", 5)]) rfl nd (r1 B.range (a1 (to_val (tpe_op op_addA (ok_add rfl) (to_val (tpe_ix rfl (sl 4) (to_val (tpe_neg (to_val cI))) (fun _ _ => rfl))) (to_val cI))) tpa_nil)) (blkOk_by (N := N_law_area_rows) (sc := defScope (top 36)) (own := [("entry", 5)]) (by decide +kernel)) (fun _ _ _ _ _ => (gn 5 nd)) (fun _ _ _ _ _ => tpts_nil) (fun _ _ _ _ _ => (to_val (tpe_op op_addA (ok_add rfl) (sl 4) (to_val (tpe_tup (a1 (to_val (rd 5)) tpa_nil)))))) (by intro _; rfl) (by decide))) tpa_nil))) tps_nil)) (tps_cons (stv 1 nd (mv 3)) tps_nil)))) (tps_cons (tps_ret (mv 1)) tps_nil)))
abbrev F_law_area_rows := B_law_area_rows
def s_law_climbs : Gam → OutS := (sSeq (sRet (eLc (mRng2 (aCons (fO (eC (.int 1))) (aCons (fO (eCall bLen (aCons (oSl 0) aNil))) aNil))) [1] (gNm 1) (toT (eOp (fEq false) (fO (eOp fIx (oSl 0) (oSl 1))) (fO (eOp fAdd (fO (eOp fIx (oSl 0) (fO (eOp fSub (oSl 1) (fO (eC (.int 1))))))) (fO (eC (.int 1))))))) (fO (eRd 1)))) sNx)
def B_law_climbs : Gam → Out R := fnB 1 s_law_climbs
theorem ok_law_climbs (B : Blt mg) (h : Here K mg "_law_climbs" 37) : Has P w K mg base 1 "_law_climbs" 1 B_law_climbs := by
  obtain ⟨f, fd, FP, g⟩ := h.ex
  have nd := sc_law_climbs.nd
  refine ⟨f, fd, ["row"], FP.ok (N := N_law_climbs) sc_law_climbs (fun vs H Q E h => h.1) (fun cdv A outer s H vs Q E hr h => ⟨_, PSs.nox ?_, fn_reads (N := N_law_climbs) (m := 1) rfl vs Q E h⟩), g, FP.kp, FP.bindsN fun _ _ _ _ _ _ us hl => match us, hl with | [_], _ => rfl⟩
  exact (tps_cons (tps_ret (tpe_lc (own := [("at", 1)]) rfl nd (r2 B.range (a1 (to_val cI) (a1 (to_val (cb call_len_seq (ok_len rfl) B.len rfl (a1 (sl 0) tpa_nil))) tpa_nil))) (blkOk_by (N := N_law_climbs) (sc := defScope (top 37)) (own := [("at", 1)]) (by decide +kernel)) (fun _ _ _ _ _ => (gn 1 nd)) (fun _ _ _ _ _ => (tpts_one (cmT (op_eqD hr.units) (ok_eq rfl) (to_val (tpe_ix rfl (sl 0) (sl 1) (fun _ _ => rfl))) (to_val (tpe_op op_addA (ok_add rfl) (to_val (tpe_ix rfl (sl 0) (to_val (tpe_op op_sub ok_sub (sl 1) (to_val cI))) (fun _ _ => rfl))) (to_val cI)))))) (fun _ _ _ _ _ => (to_val (rd 1))) (by intro _; rfl) (by decide))) tps_nil)
abbrev F_law_climbs := B_law_climbs
def s_law_lots_from : Gam → OutS := (sSeq (sSet 2 (eLst (aCons (fO (eTup aNil)) aNil))) (sSeq (sFor (mRng1 (aCons (oSl 1) aNil)) (gNm 3) (sSeq (sSet 4 (eLst aNil)) (sSeq (sFor (mIter (fO (eRd 2))) (gNm 5) (sSeq (sExpr (eMeth 4 fExtend (aCons (fO (eLc (mIter (fO (eRd 0))) [6] (gNm 6) (bOr (toT (eOp (fEq false) (oSl 5) (fO (eTup aNil)))) (toT (eOp fGt (oSl 6) (fO (eOp fIx (oSl 5) (fO (eNeg (fO (eC (.int 1)))))))))) (fO (eOp fAdd (oSl 5) (fO (eTup (aCons (fO (eRd 6)) aNil))))))) aNil))) sNx)) (sSeq (sSet 2 (eMv 4)) sNx)))) (sSeq (sRet (eMv 2)) sNx)))
def B_law_lots_from : Gam → Out R := fnB 5 s_law_lots_from
theorem ok_law_lots_from (B : Blt mg) (h : Here K mg "_law_lots_from" 38) : Has P w K mg base 1 "_law_lots_from" 2 B_law_lots_from := by
  obtain ⟨f, fd, FP, g⟩ := h.ex
  have nd := sc_law_lots_from.nd
  refine ⟨f, fd, ["items", "many"], FP.ok (N := N_law_lots_from) sc_law_lots_from (fun vs H Q E h => h.1) (fun cdv A outer s H vs Q E hr h => ⟨_, PSs.nox ?_, fn_reads (N := N_law_lots_from) (m := 5) rfl vs Q E h⟩), g, FP.kp, FP.bindsN fun _ _ _ _ _ _ us hl => match us, hl with | [_, _], _ => rfl⟩
  exact (tps_cons (stv 2 nd (tpe_lst (a1 (to_val (tpe_tup tpa_nil)) tpa_nil))) (tps_cons (fr PassesOwn.never rfl (r1 B.range (a1 (sl 1) tpa_nil)) (gn 3 nd) (tps_cons (stv 4 nd (tpe_lst tpa_nil)) (tps_cons (fr PassesOwn.never rfl (tpi_seq rfl (to_val (rd 2))) (gn 5 nd) (tps_cons (sx (me PySem.F.slot_list_extend PySem.F.type_list_extend mt_extend ok_extend (sl 4) (a1 (to_val (tpe_lc (own := [("item", 6)]) rfl nd (tpi_seq rfl (to_val (rd 0))) (blkOk_by (N := N_law_lots_from) (sc := defScope (top 38)) (own := [("item", 6)]) (by decide +kernel)) (fun _ _ _ _ _ => (gn 6 nd)) (fun _ _ _ _ _ => (tpts_one (PW.pt (tpw_or (cmT (op_eqD hr.units) (ok_eq rfl) (sl 5) (to_val (tpe_tup tpa_nil))) (tpw_or1 (cmT op_gt ok_gt (sl 6) (to_val (tpe_ix rfl (sl 5) (to_val (tpe_neg (to_val cI))) (fun _ _ => rfl))))))))) (fun _ _ _ _ _ => (to_val (tpe_op op_addA (ok_add rfl) (sl 5) (to_val (tpe_tup (a1 (to_val (rd 6)) tpa_nil)))))) (by intro _; rfl) (by decide))) tpa_nil))) tps_nil)) (tps_cons (stv 2 nd (mv 4)) tps_nil)))) (tps_cons (tps_ret (mv 2)) tps_nil)))
abbrev F_law_lots_from := B_law_lots_from
def s_law_marked_rows : Gam → OutS := (sSeq (sSet 2 (eLst aNil)) (sSeq (sFor (mIter (fO (eCallN 1 F_law_area_rows (aCons (fO (eRd 0)) aNil)))) (gNm 3) (sSeq (sExpr (eMeth 2 fExtend (aCons (fO (eLc (mIter (fO (eCallN 2 F_law_lots_from (aCons (fO (eCallN 1 F_law_climbs (aCons (fO (eRd 3)) aNil))) (aCons (fO (eRd 1)) aNil))))) [4] (gNm 4) mYes (fO (eTup (aCons (fO (eRd 3)) (aCons (fO (eRd 4)) aNil)))))) aNil))) sNx)) (sSeq (sRet (eMv 2)) sNx)))
def B_law_marked_rows : Gam → Out R := fnB 3 s_law_marked_rows
theorem ok_law_marked_rows (B : Blt mg) (h : Here K mg "_law_marked_rows" 39) (H_law_area_rows : Has P w K mg base 1 "_law_area_rows" 1 F_law_area_rows) (H_law_lots_from : Has P w K mg base 1 "_law_lots_from" 2 F_law_lots_from) (H_law_climbs : Has P w K mg base 1 "_law_climbs" 1 F_law_climbs) : Has P w K mg base 2 "_law_marked_rows" 2 B_law_marked_rows := by
  obtain ⟨f, fd, FP, g⟩ := h.ex
  obtain ⟨f_law_area_rows, fd_law_area_rows, ps_law_area_rows, O_law_area_rows, g_law_area_rows, k_law_area_rows, b_law_area_rows⟩ := H_law_area_rows.ex
  obtain ⟨f_law_lots_from, fd_law_lots_from, ps_law_lots_from, O_law_lots_from, g_law_lots_from, k_law_lots_from, b_law_lots_from⟩ := H_law_lots_from.ex
  obtain ⟨f_law_climbs, fd_law_climbs, ps_law_climbs, O_law_climbs, g_law_climbs, k_law_climbs, b_law_climbs⟩ := H_law_climbs.ex
  have nd := sc_law_marked_rows.nd
  refine ⟨f, fd, ["size", "many"], FP.ok (N := N_law_marked_rows) sc_law_marked_rows (fun vs H Q E h => h.1) (fun cdv A outer s H vs Q E hr h => ⟨_, PSs.nox ?_, fn_reads (N := N_law_marked_rows) (m := 3) rfl vs Q E h⟩), g, FP.kp, FP.bindsN fun _ _ _ _ _ _ us hl => match us, hl with | [_, _], _ => rfl⟩
  exact (tps_cons (stv 2 nd (tpe_lst tpa_nil)) (tps_cons (fr PassesOwn.never rfl (tpi_seq rfl (to_val (cu O_law_area_rows hr g_law_area_rows k_law_area_rows b_law_area_rows (a1 (to_val (rd 0)) tpa_nil)))) (gn 3 nd) (tps_cons (sx (me PySem.F.slot_list_extend PySem.F.type_list_extend mt_extend ok_extend (sl 2) (a1 (to_val (tpe_lc (own := [("lot", 4)]) rfl nd (tpi_seq rfl (to_val (cu O_law_lots_from hr g_law_lots_from k_law_lots_from b_law_lots_from (a1 (to_val (cu O_law_climbs hr g_law_climbs k_law_climbs b_law_climbs (a1 (to_val (rd 3)) tpa_nil))) (a1 (to_val (rd 1)) tpa_nil))))) (blkOk_by (N := N_law_marked_rows) (sc := defScope (top 39)) (own := [("lot", 4)]) (by decide +kernel)) (fun _ _ _ _ _ => (gn 4 nd)) (fun _ _ _ _ _ => tpts_nil) (fun _ _ _ _ _ => (to_val (tpe_tup (a1 (to_val (rd 3)) (a1 (to_val (rd 4)) tpa_nil))))) (by intro _; rfl) (by decide))) tpa_nil))) tps_nil)) (tps_cons (tps_ret (mv 2)) tps_nil)))
abbrev F_law_marked_rows := B_law_marked_rows
def s_law_is_lot : Gam → OutS := (sSeq (sIf (bOr (bNot (toT (eCall bIsi (aCons (oSl 1) (aCons (fO (eC (.ty "tuple"))) aNil))))) (toT (eOp (fEq true) (fO (eLc (mIter (fO (eRd 1))) [2] (gNm 2) (bOr (toT (eCall bIsi (aCons (oSl 2) (aCons (fO (eC (.ty "bool"))) aNil)))) (bNot (toT (eCall bIsi (aCons (oSl 2) (aCons (fO (eC (.ty "int"))) aNil)))))) (fO (eC (.int 1))))) (fO (eLst aNil))))) (sSeq (sRet (eC (.bl false))) sNx) sNx) (sSeq (sIf (toT (eOp (fEq true) (fO (eLc (mIter (fO (eRd 1))) [2] (gNm 2) (toT (eOp (fIn true) (oSl 2) (fO (eCallN 1 F_law_climbs (aCons (fO (eRd 0)) aNil))))) (fO (eC (.int 1))))) (fO (eLst aNil)))) (sSeq (sRet (eC (.bl false))) sNx) sNx) (sSeq (sRet (eOp (fEq false) (fO (eLc (mZip (aCons (fO (eRd 1)) (aCons (fO (eSl (oSl 1) (pSome (fO (eC (.int 1)))) pNone)) aNil))) [2, 3] (gTp 2 (gsCons (gNm 2) (gsCons (gNm 3) gsNil))) (toT (eOp fGe (oSl 2) (oSl 3))) (fO (eC (.int 1))))) (fO (eLst aNil)))) sNx)))
def B_law_is_lot : Gam → Out R := fnB 2 s_law_is_lot
theorem ok_law_is_lot (B : Blt mg) (h : Here K mg "_law_is_lot" 40) (H_law_climbs : Has P w K mg base 1 "_law_climbs" 1 F_law_climbs) : Has P w K mg base 2 "_law_is_lot" 2 B_law_is_lot := by
  obtain ⟨f, fd, FP, g⟩ := h.ex
  obtain ⟨f_law_climbs, fd_law_climbs, ps_law_climbs, O_law_climbs, g_law_climbs, k_law_climbs, b_law_climbs⟩ := H_law_climbs.ex
  have nd := sc_law_is_lot.nd
  refine ⟨f, fd, ["row", "value"], FP.ok (N := N_law_is_lot) sc_law_is_lot (fun vs H Q E h => h.1) (fun cdv A outer s H vs Q E hr h => ⟨_, PSs.nox ?_, fn_reads (N := N_law_is_lot) (m := 2) rfl vs Q E h⟩), g, FP.kp, FP.bindsN fun _ _ _ _ _ _ us hl => match us, hl with | [_, _], _ => rfl⟩
  exact (tps_cons (tps_if (PW.pt (tpw_or (tpt_not (tv (cb call_isi (ok_isi rfl) B.isinstance rfl (a1 (sl 1) (a1 (to_val (bT B.tuple rfl)) tpa_nil))))) (tpw_or1 (cmT (op_neD hr.units) (ok_ne rfl) (to_val (tpe_lc (own := [("one", 2)]) rfl nd (tpi_seq rfl (to_val (rd 1))) (blkOk_by (N := N_law_is_lot) (sc := defScope (top 40)) (own := [("one", 2)]) (by decide +kernel)) (fun _ _ _ _ _ => (gn 2 nd)) (fun _ _ _ _ _ => (tpts_one (PW.pt (tpw_or (tv (cb call_isi (ok_isi rfl) B.isinstance rfl (a1 (sl 2) (a1 (to_val (bT B.bool rfl)) tpa_nil)))) (tpw_or1 (tpt_not (tv (cb call_isi (ok_isi rfl) B.isinstance rfl (a1 (sl 2) (a1 (to_val (bT B.int rfl)) tpa_nil)))))))))) (fun _ _ _ _ _ => (to_val cI)) (by intro _; rfl) (by decide))) (to_val (tpe_lst tpa_nil)))))) (tps_cons (tps_ret cB) tps_nil) tps_nil) (tps_cons (tps_if (cmT (op_neD hr.units) (ok_ne rfl) (to_val (tpe_lc (own := [("one", 2)]) rfl nd (tpi_seq rfl (to_val (rd 1))) (blkOk_by (N := N_law_is_lot) (sc := defScope (top 40)) (own := [("one", 2)]) (by decide +kernel)) (fun _ _ _ _ _ => (gn 2 nd)) (fun _ _ _ _ _ => (tpts_one (cmT op_notIn_seq (ok_in rfl true) (sl 2) (to_val (cu O_law_climbs hr g_law_climbs k_law_climbs b_law_climbs (a1 (to_val (rd 0)) tpa_nil)))))) (fun _ _ _ _ _ => (to_val cI)) (by intro _; rfl) (by decide))) (to_val (tpe_lst tpa_nil))) (tps_cons (tps_ret cB) tps_nil) tps_nil) (tps_cons (tps_ret (cm (op_eqD hr.units) (ok_eq rfl) (to_val (tpe_lc (own := [("one", 2), ("other", 3)]) rfl nd (zp rfl B.zip (a1 (to_val (rd 1)) (a1 (to_val (tpe_slice rfl (sl 1) (tpo_some (to_val cI)) tpo_none)) tpa_nil))) (blkOk_by (N := N_law_is_lot) (sc := defScope (top 40)) (own := [("one", 2), ("other", 3)]) (by decide +kernel)) (fun _ _ _ _ _ => (gt rfl rfl (gc (gn 2 nd) (gc (gn 3 nd) tpgs_nil)))) (fun _ _ _ _ _ => (tpts_one (cmT op_ge ok_ge (sl 2) (sl 3)))) (fun _ _ _ _ _ => (to_val cI)) (by intro _; rfl) (by decide))) (to_val (tpe_lst tpa_nil)))) tps_nil)))
abbrev F_law_is_lot := B_law_is_lot
def s_law_near_lots : Gam → OutS := (sSeq (sSet 3 (eLst (aCons (fO (eRd 2)) (aCons (fO (eCall bList (aCons (oSl 2) aNil))) (aCons (fO (eRev (oSl 2))) (aCons (fO (eOp fAdd (oSl 2) (fO (eSl (oSl 2) pNone (pSome (fO (eC (.int 1)))))))) (aCons (fO (eSl (oSl 2) (pSome (fO (eC (.int 1)))) pNone)) (aCons (fO (eC .non)) (aCons (fO (eC (.int 0))) (aCons (fO (eC (.str "1"))) (aCons (fO (eTup (aCons (fO (eC .non)) aNil))) (aCons (fO (eTup (aCons (fO (eC (.bl true))) aNil))) (aCons (fO (eTup (aCons (fO (eTup (aCons (fO (eC (.int 1))) aNil))) aNil))) (aCons (fO (eC (.dct []))) (aCons (fO (eTup (aCons (fO (eNeg (fO (eC (.int 1))))) aNil))) aNil))))))))))))))) (sSeq (sExpr (eMeth 3 fAppend (aCons (fO (eTupRg1 (fO (eCall bLen (aCons (oSl 1) aNil))))) aNil))) (sSeq (sExpr (eMeth 3 fAppend (aCons (fO (eTup (aCons (fO (eCall bLen (aCons (oSl 1) aNil))) aNil))) aNil))) (sSeq (sExpr (eMeth 3 fAppend (aCons (fO (eCall bTuple (aCons (fO (eCallN 1 F_law_climbs (aCons (fO (eRd 1)) aNil))) aNil))) aNil))) (sSeq (sFor (mRng1 (aCons (fO (eCall bLen (aCons (oSl 1) aNil))) aNil)) (gNm 4) (sSeq (sSet 3 (eOp fAdd (oSl 3) (fO (eLst (aCons (fO (eTup (aCons (fO (eRd 4)) aNil))) (aCons (fO (eOp fAdd (oSl 2) (fO (eTup (aCons (fO (eRd 4)) aNil))))) (aCons (fO (eCall bTuple (aCons (fO (eSortSet (aCons (fO (eOp fAdd (oSl 2) (fO (eTup (aCons (fO (eRd 4)) aNil))))) aNil))) aNil))) aNil))))))) sNx)) (sSeq (sRet (eMv 3)) sNx))))))
def B_law_near_lots : Gam → Out R := fnB 2 s_law_near_lots
theorem ok_law_near_lots (B : Blt mg) (h : Here K mg "_law_near_lots" 41) (H_law_climbs : Has P w K mg base 1 "_law_climbs" 1 F_law_climbs) : Has P w K mg base 2 "_law_near_lots" 3 B_law_near_lots := by
  obtain ⟨f, fd, FP, g⟩ := h.ex
  obtain ⟨f_law_climbs, fd_law_climbs, ps_law_climbs, O_law_climbs, g_law_climbs, k_law_climbs, b_law_climbs⟩ := H_law_climbs.ex
  have nd := sc_law_near_lots.nd
  refine ⟨f, fd, ["dice", "row", "lot"], FP.ok (N := N_law_near_lots) sc_law_near_lots (fun vs H Q E h => h.1) (fun cdv A outer s H vs Q E hr h => ⟨_, PSs.nox ?_, fn_reads (N := N_law_near_lots) (m := 2) rfl vs Q E h⟩), g, FP.kp, FP.bindsN fun _ _ _ _ _ _ us hl => match us, hl with | [_, _, _], _ => rfl⟩
  exact (tps_cons (stv 3 nd (tpe_lst (a1 (to_val (rd 2)) (a1 (to_val (ct call_list_of (ok_list rfl) B.list rfl (a1 (sl 2) tpa_nil))) (a1 (to_val (tpe_rev rfl (sl 2))) (a1 (to_val (tpe_op op_addA (ok_add rfl) (sl 2) (to_val (tpe_slice rfl (sl 2) tpo_none (tpo_some (to_val cI)))))) (a1 (to_val (tpe_slice rfl (sl 2) (tpo_some (to_val cI)) tpo_none)) (a1 (to_val cN) (a1 (to_val cI) (a1 (to_val cS) (a1 (to_val (tpe_tup (a1 (to_val cN) tpa_nil))) (a1 (to_val (tpe_tup (a1 (to_val cB) tpa_nil))) (a1 (to_val (tpe_tup (a1 (to_val (tpe_tup (a1 (to_val cI) tpa_nil))) tpa_nil))) (a1 (to_val tpe_dct) (a1 (to_val (tpe_tup (a1 (to_val (tpe_neg (to_val cI))) tpa_nil))) tpa_nil))))))))))))))) (tps_cons (sx (me PySem.F.slot_list_append PySem.F.type_list_append mt_append ok_append (sl 3) (a1 (to_val (tpe_tupRg1 rfl rfl B.tuple rfl B.range (to_val (cb call_len_seq (ok_len rfl) B.len rfl (a1 (sl 1) tpa_nil))) rfl rfl)) tpa_nil))) (tps_cons (sx (me PySem.F.slot_list_append PySem.F.type_list_append mt_append ok_append (sl 3) (a1 (to_val (tpe_tup (a1 (to_val (cb call_len_seq (ok_len rfl) B.len rfl (a1 (sl 1) tpa_nil))) tpa_nil))) tpa_nil))) (tps_cons (sx (me PySem.F.slot_list_append PySem.F.type_list_append mt_append ok_append (sl 3) (a1 (to_val (ct call_tuple_of (ok_tuple rfl) B.tuple rfl (a1 (to_val (cu O_law_climbs hr g_law_climbs k_law_climbs b_law_climbs (a1 (to_val (rd 1)) tpa_nil))) tpa_nil))) tpa_nil))) (tps_cons (fr PassesOwn.never rfl (r1 B.range (a1 (to_val (cb call_len_seq (ok_len rfl) B.len rfl (a1 (sl 1) tpa_nil))) tpa_nil)) (gn 4 nd) (tps_cons (stv 3 nd (tpe_op op_addA (ok_add rfl) (sl 3) (to_val (tpe_lst (a1 (to_val (tpe_tup (a1 (to_val (rd 4)) tpa_nil))) (a1 (to_val (tpe_op op_addA (ok_add rfl) (sl 2) (to_val (tpe_tup (a1 (to_val (rd 4)) tpa_nil))))) (a1 (to_val (ct call_tuple_of (ok_tuple rfl) B.tuple rfl (a1 (to_val (tpe_sortSet (x := "") (y := "") rfl rfl rfl B.sorted rfl B.set (a1 (to_val (tpe_op op_addA (ok_add rfl) (sl 2) (to_val (tpe_tup (a1 (to_val (rd 4)) tpa_nil))))) tpa_nil) rfl rfl)) tpa_nil))) tpa_nil))))))) tps_nil)) (tps_cons (tps_ret (mv 3)) tps_nil))))))
abbrev F_law_near_lots := B_law_near_lots
def s_law_right : Gam → OutS := (sSeq (sSet 1 (eOp fAdd (fO (eC (.int 1))) (fO (eCallN 2 F_law_roll (aCons (oSl 0) (aCons (fO (eC (.int 6))) aNil)))))) (sSeq (sSet 2 (eCallN 2 F_law_one_of (aCons (oSl 0) (aCons (fO (eCallN 1 F_law_area_rows (aCons (fO (eRd 1)) aNil))) aNil)))) (sSeq (sSet 3 (eCallN 1 F_law_climbs (aCons (fO (eRd 2)) aNil))) (sSeq (sIf (toT (eOp (fEq true) (fO (eCallN 1 F_rises (aCons (fO (eRd 2)) aNil))) (fO (eCall bTuple (aCons (oSl 3) aNil))))) (sSeq (sRet (eC (.bl false))) sNx) sNx) (sSeq (sSet 4 (eCallN 2 F_law_one_of (aCons (oSl 0) (aCons (fO (eCallN 2 F_law_lots_from (aCons (fO (eRd 3)) (aCons (fO (eCallN 2 F_law_roll (aCons (oSl 0) (aCons (fO (eOp fAdd (fO (eCall bLen (aCons (oSl 3) aNil))) (fO (eC (.int 1))))) aNil)))) aNil)))) aNil)))) (sSeq (sFor (mIter (fO (eCallN 3 F_law_near_lots (aCons (oSl 0) (aCons (fO (eRd 2)) (aCons (fO (eRd 4)) aNil)))))) (gNm 5) (sSeq (sIf (toT (eOp (fEq true) (fO (eCall bRepr (aCons (fO (eCallN 2 F_are_marks (aCons (fO (eRd 2)) (aCons (fO (eRd 5)) aNil)))) aNil))) (fO (eCall bRepr (aCons (fO (eCallN 2 F_law_is_lot (aCons (fO (eRd 2)) (aCons (fO (eRd 5)) aNil)))) aNil))))) (sSeq (sRet (eC (.bl false))) sNx) sNx) sNx)) (sSeq (sPar3 6 7 8 (eCallN 2 F_law_mixed (aCons (oSl 0) (aCons (fO (eLstRg2 (fO (eC (.int 1))) (fO (eOp fAdd (oSl 1) (fO (eC (.int 1))))))) aNil))) (eLst aNil) (eC (.int 0))) (sSeq (fun γ => sWhile (toT (eOp fLt (oSl 8) (oSl 1))) (sSeq (sSet 9 (eOp fAdd (oSl 8) (fO (eC (.int 1))))) (sSeq (fun γ => sWhile (bAnd (toT (eOp fLt (oSl 9) (oSl 1))) (toT (eOp (fEq false) (fO (eOp fIx (oSl 2) (oSl 9))) (fO (eOp fAdd (fO (eOp fIx (oSl 2) (fO (eOp fSub (oSl 9) (fO (eC (.int 1))))))) (fO (eC (.int 1)))))))) (sSeq (sSet 9 (eOp fAdd (oSl 9) (fO (eC (.int 1))))) sNx) 8 γ) (sSeq (sSet 7 (eOp fAdd (oSl 7) (fO (eCall bSorted (aCons (fO (eSl (oSl 6) (pSome (oSl 8)) (pSome (oSl 9)))) aNil))))) (sSeq (sSet 8 (eMv 9)) sNx)))) 8 γ) (sSeq (sAsg (fO (eCallN 2 F_law_path_counts (aCons (fO (eRd 2)) (aCons (fO (eCall bTuple (aCons (oSl 7) aNil))) aNil)))) (gTp 2 (gsCons (gNm 10) (gsCons (gNm 11) gsNil)))) (sSeq (sRet (eOp (fEq false) (fO (eCallN 3 F_marked_counts (aCons (fO (eRd 2)) (aCons (fO (eRd 4)) (aCons (fO (eCall bTuple (aCons (oSl 7) aNil))) aNil))))) (fO (eTup (aCons (fO (eOp fSub (oSl 10) (fO (eCall bSum (aCons (fO (eLc (mIter (fO (eRd 4))) [12] (gNm 12) mYes (fO (eOp fIx (oSl 2) (oSl 12))))) aNil))))) (aCons (fO (eRd 11)) aNil)))))) sNx))))))))))
def B_law_right : Gam → Out R := fnB 12 s_law_right
theorem ok_law_right (B : Blt mg) (h : Here K mg "_law_right" 42) (H_marked_counts : Has P w K mg base 6 "marked_counts" 3 F_marked_counts) (H_law_path_counts : Has P w K mg base 1 "_law_path_counts" 2 F_law_path_counts) (H_law_mixed : Has P w K mg base 2 "_law_mixed" 2 F_law_mixed) (H_law_near_lots : Has P w K mg base 2 "_law_near_lots" 3 F_law_near_lots) (H_are_marks : Has P w K mg base 5 "are_marks" 2 F_are_marks) (H_law_is_lot : Has P w K mg base 2 "_law_is_lot" 2 F_law_is_lot) (H_law_one_of : Has P w K mg base 2 "_law_one_of" 2 F_law_one_of) (H_law_lots_from : Has P w K mg base 1 "_law_lots_from" 2 F_law_lots_from) (H_law_roll : Has P w K mg base 1 "_law_roll" 2 F_law_roll) (H_rises : Has P w K mg base 5 "rises" 1 F_rises) (H_law_climbs : Has P w K mg base 1 "_law_climbs" 1 F_law_climbs) (H_law_area_rows : Has P w K mg base 1 "_law_area_rows" 1 F_law_area_rows) : Has P w K mg base 7 "_law_right" 1 B_law_right := by
  obtain ⟨f, fd, FP, g⟩ := h.ex
  obtain ⟨f_marked_counts, fd_marked_counts, ps_marked_counts, O_marked_counts, g_marked_counts, k_marked_counts, b_marked_counts⟩ := H_marked_counts.ex
  obtain ⟨f_law_path_counts, fd_law_path_counts, ps_law_path_counts, O_law_path_counts, g_law_path_counts, k_law_path_counts, b_law_path_counts⟩ := H_law_path_counts.ex
  obtain ⟨f_law_mixed, fd_law_mixed, ps_law_mixed, O_law_mixed, g_law_mixed, k_law_mixed, b_law_mixed⟩ := H_law_mixed.ex
  obtain ⟨f_law_near_lots, fd_law_near_lots, ps_law_near_lots, O_law_near_lots, g_law_near_lots, k_law_near_lots, b_law_near_lots⟩ := H_law_near_lots.ex
  obtain ⟨f_are_marks, fd_are_marks, ps_are_marks, O_are_marks, g_are_marks, k_are_marks, b_are_marks⟩ := H_are_marks.ex
  obtain ⟨f_law_is_lot, fd_law_is_lot, ps_law_is_lot, O_law_is_lot, g_law_is_lot, k_law_is_lot, b_law_is_lot⟩ := H_law_is_lot.ex
  obtain ⟨f_law_one_of, fd_law_one_of, ps_law_one_of, O_law_one_of, g_law_one_of, k_law_one_of, b_law_one_of⟩ := H_law_one_of.ex
  obtain ⟨f_law_lots_from, fd_law_lots_from, ps_law_lots_from, O_law_lots_from, g_law_lots_from, k_law_lots_from, b_law_lots_from⟩ := H_law_lots_from.ex
  obtain ⟨f_law_roll, fd_law_roll, ps_law_roll, O_law_roll, g_law_roll, k_law_roll, b_law_roll⟩ := H_law_roll.ex
  obtain ⟨f_rises, fd_rises, ps_rises, O_rises, g_rises, k_rises, b_rises⟩ := H_rises.ex
  obtain ⟨f_law_climbs, fd_law_climbs, ps_law_climbs, O_law_climbs, g_law_climbs, k_law_climbs, b_law_climbs⟩ := H_law_climbs.ex
  obtain ⟨f_law_area_rows, fd_law_area_rows, ps_law_area_rows, O_law_area_rows, g_law_area_rows, k_law_area_rows, b_law_area_rows⟩ := H_law_area_rows.ex
  have nd := sc_law_right.nd
  refine ⟨f, fd, ["dice"], FP.ok (N := N_law_right) sc_law_right (fun vs H Q E h => h.1) (fun cdv A outer s H vs Q E hr h => ⟨_, PSs.nox ?_, fn_reads (N := N_law_right) (m := 12) rfl vs Q E h⟩), g, FP.kp, FP.bindsN fun _ _ _ _ _ _ us hl => match us, hl with | [_], _ => rfl⟩
  exact (tps_cons (stv 1 nd (tpe_op op_addA (ok_add rfl) (to_val cI) (to_val (cu O_law_roll hr g_law_roll k_law_roll b_law_roll (a1 (sl 0) (a1 (to_val cI) tpa_nil)))))) (tps_cons (stv 2 nd (cu O_law_one_of hr g_law_one_of k_law_one_of b_law_one_of (a1 (sl 0) (a1 (to_val (cu O_law_area_rows hr g_law_area_rows k_law_area_rows b_law_area_rows (a1 (to_val (rd 1)) tpa_nil))) tpa_nil)))) (tps_cons (stv 3 nd (cu O_law_climbs hr g_law_climbs k_law_climbs b_law_climbs (a1 (to_val (rd 2)) tpa_nil))) (tps_cons (tps_if (cmT (op_neD hr.units) (ok_ne rfl) (to_val (cu O_rises hr g_rises k_rises b_rises (a1 (to_val (rd 2)) tpa_nil))) (to_val (ct call_tuple_of (ok_tuple rfl) B.tuple rfl (a1 (sl 3) tpa_nil)))) (tps_cons (tps_ret cB) tps_nil) tps_nil) (tps_cons (stv 4 nd (cu O_law_one_of hr g_law_one_of k_law_one_of b_law_one_of (a1 (sl 0) (a1 (to_val (cu O_law_lots_from hr g_law_lots_from k_law_lots_from b_law_lots_from (a1 (to_val (rd 3)) (a1 (to_val (cu O_law_roll hr g_law_roll k_law_roll b_law_roll (a1 (sl 0) (a1 (to_val (tpe_op op_addA (ok_add rfl) (to_val (cb call_len_seq (ok_len rfl) B.len rfl (a1 (sl 3) tpa_nil))) (to_val cI))) tpa_nil)))) tpa_nil)))) tpa_nil)))) (tps_cons (fr PassesOwn.never rfl (tpi_seq rfl (to_val (cu O_law_near_lots hr g_law_near_lots k_law_near_lots b_law_near_lots (a1 (sl 0) (a1 (to_val (rd 2)) (a1 (to_val (rd 4)) tpa_nil)))))) (gn 5 nd) (tps_cons (tps_if (cmT (op_neD hr.units) (ok_ne rfl) (to_val (cb cr_reprB ok_repr B.repr rfl (a1 (to_val (cu O_are_marks hr g_are_marks k_are_marks b_are_marks (a1 (to_val (rd 2)) (a1 (to_val (rd 5)) tpa_nil)))) tpa_nil))) (to_val (cb cr_reprB ok_repr B.repr rfl (a1 (to_val (cu O_law_is_lot hr g_law_is_lot k_law_is_lot b_law_is_lot (a1 (to_val (rd 2)) (a1 (to_val (rd 5)) tpa_nil)))) tpa_nil)))) (tps_cons (tps_ret cB) tps_nil) tps_nil) tps_nil)) (tps_cons (tps_par3 (i := 6) (j := 7) (l := 8) rfl nd rfl rfl rfl (by decide) (by decide) (by decide) rfl rfl rfl (cu O_law_mixed hr g_law_mixed k_law_mixed b_law_mixed (a1 (sl 0) (a1 (to_val (tpe_lstRg2 rfl rfl B.list rfl B.range (to_val cI) (to_val (tpe_op op_addA (ok_add rfl) (sl 1) (to_val cI))) rfl rfl rfl rfl)) tpa_nil))) (tpe_lst tpa_nil) cI rfl rfl rfl rfl rfl) (tps_cons (tps_while 8 PassesOwn.never (cmT op_lt ok_lt (sl 8) (sl 1)) (tps_cons (stv 9 nd (tpe_op op_addA (ok_add rfl) (sl 8) (to_val cI))) (tps_cons (tps_while 8 PassesOwn.never (PW.pt (tpw_and (cmT op_lt ok_lt (sl 9) (sl 1)) (tpw_and1 (cmT (op_eqD hr.units) (ok_eq rfl) (to_val (tpe_ix rfl (sl 2) (sl 9) (fun _ _ => rfl))) (to_val (tpe_op op_addA (ok_add rfl) (to_val (tpe_ix rfl (sl 2) (to_val (tpe_op op_sub ok_sub (sl 9) (to_val cI))) (fun _ _ => rfl))) (to_val cI))))))) (tps_cons (stv 9 nd (tpe_op op_addA (ok_add rfl) (sl 9) (to_val cI))) tps_nil)) (tps_cons (stv 7 nd (tpe_op op_addA (ok_add rfl) (sl 7) (to_val (cb cr_sortedI ok_sorted B.sorted rfl (a1 (to_val (tpe_slice rfl (sl 6) (tpo_some (sl 8)) (tpo_some (sl 9)))) tpa_nil))))) (tps_cons (stv 8 nd (mv 9)) tps_nil))))) (tps_cons (sa (to_val (cu O_law_path_counts hr g_law_path_counts k_law_path_counts b_law_path_counts (a1 (to_val (rd 2)) (a1 (to_val (ct call_tuple_of (ok_tuple rfl) B.tuple rfl (a1 (sl 7) tpa_nil))) tpa_nil)))) (gt rfl rfl (gc (gn 10 nd) (gc (gn 11 nd) tpgs_nil)))) (tps_cons (tps_ret (cm (op_eqD hr.units) (ok_eq rfl) (to_val (cu O_marked_counts hr g_marked_counts k_marked_counts b_marked_counts (a1 (to_val (rd 2)) (a1 (to_val (rd 4)) (a1 (to_val (ct call_tuple_of (ok_tuple rfl) B.tuple rfl (a1 (sl 7) tpa_nil))) tpa_nil))))) (to_val (tpe_tup (a1 (to_val (tpe_op op_sub ok_sub (sl 10) (to_val (cb (cr_sumB rfl) (ok_sum rfl) B.sum rfl (a1 (to_val (tpe_lc (own := [("one", 12)]) rfl nd (tpi_seq rfl (to_val (rd 4))) (blkOk_by (N := N_law_right) (sc := defScope (top 42)) (own := [("one", 12)]) (by decide +kernel)) (fun _ _ _ _ _ => (gn 12 nd)) (fun _ _ _ _ _ => tpts_nil) (fun _ _ _ _ _ => (to_val (tpe_ix rfl (sl 2) (sl 12) (fun _ _ => rfl)))) (by intro _; rfl) (by decide))) tpa_nil))))) (a1 (to_val (rd 11)) tpa_nil)))))) tps_nil))))))))))
abbrev F_law_right := B_law_right
def s_law : Gam → OutS := (sSeq (sFor (mRng1 (aCons (fO (eCall bMax2 (aCons (fO (eC (.int 1))) (aCons (fO (eCall bMin2 (aCons (fO (eC (.int 4))) (aCons (fO (eCall bLen (aCons (oSl 0) aNil))) aNil)))) aNil)))) aNil)) (gNm 1) (sSeq (sSet 2 (eCallN 2 F_law_dice (aCons (fO (eRd 0)) (aCons (fO (eRd 1)) aNil)))) (sSeq (sFor (mRng1 (aCons (fO (eC (.int 3))) aNil)) (gNm 3) (sSeq (sIf (bNot (toT (eCallN 1 F_law_right (aCons (oSl 2) aNil)))) (sSeq (sRet (eC (.bl false))) sNx) sNx) sNx)) (sSeq (sSet 4 (eOp fAdd (fO (eC (.int 1))) (fO (eCallN 2 F_law_roll (aCons (oSl 2) (aCons (fO (eC (.int 5))) aNil)))))) (sSeq (sFor (mRng1 (aCons (oSl 4) aNil)) (gNm 5) (sSeq (sIf (toT (eOp (fEq true) (fO (eListG 2 F_marked_rows (aCons (fO (eRd 4)) (aCons (fO (eRd 5)) aNil)))) (fO (eCallN 2 F_law_marked_rows (aCons (fO (eRd 4)) (aCons (fO (eRd 5)) aNil)))))) (sSeq (sRet (eC (.bl false))) sNx) sNx) sNx)) (sSeq (sPar2 4 5 (eC (.int 6)) (eCallN 2 F_law_roll (aCons (oSl 2) (aCons (fO (eC (.int 6))) aNil)))) (sSeq (sIf (toT (eOp (fEq true) (fO (eListG 2 F_marked_rows (aCons (fO (eRd 4)) (aCons (fO (eRd 5)) aNil)))) (fO (eCallN 2 F_law_marked_rows (aCons (fO (eRd 4)) (aCons (fO (eRd 5)) aNil)))))) (sSeq (sRet (eC (.bl false))) sNx) sNx) sNx))))))) (sSeq (sRet (eOp (fEq false) (fO (eCall bLen (aCons (fO (eListG 2 F_marked_rows (aCons (fO (eC (.int 4))) (aCons (fO (eC (.int 1))) aNil)))) aNil))) (fO (eCall bSum (aCons (fO (eLc (mIter (fO (eCallN 1 F_law_area_rows (aCons (fO (eC (.int 4))) aNil)))) [6] (gNm 6) mYes (fO (eCall bLen (aCons (fO (eCallN 1 F_law_climbs (aCons (fO (eRd 6)) aNil))) aNil))))) aNil))))) sNx))
def B_law : Gam → Out R := fnB 6 s_law
theorem ok_law (B : Blt mg) (h : Here K mg "law" 43) (H_marked_rows : HasG P w K mg base 4 "marked_rows" 2 F_marked_rows) (H_law_area_rows : Has P w K mg base 1 "_law_area_rows" 1 F_law_area_rows) (H_law_climbs : Has P w K mg base 1 "_law_climbs" 1 F_law_climbs) (H_law_marked_rows : Has P w K mg base 2 "_law_marked_rows" 2 F_law_marked_rows) (H_law_roll : Has P w K mg base 1 "_law_roll" 2 F_law_roll) (H_law_right : Has P w K mg base 7 "_law_right" 1 F_law_right) (H_law_dice : Has P w K mg base 1 "_law_dice" 2 F_law_dice) : Has P w K mg base 8 "law" 1 B_law := by
  obtain ⟨f, fd, FP, g⟩ := h.ex
  obtain ⟨f_marked_rows, fd_marked_rows, ps_marked_rows, O_marked_rows, g_marked_rows, k_marked_rows, b_marked_rows⟩ := H_marked_rows.ex
  obtain ⟨f_law_area_rows, fd_law_area_rows, ps_law_area_rows, O_law_area_rows, g_law_area_rows, k_law_area_rows, b_law_area_rows⟩ := H_law_area_rows.ex
  obtain ⟨f_law_climbs, fd_law_climbs, ps_law_climbs, O_law_climbs, g_law_climbs, k_law_climbs, b_law_climbs⟩ := H_law_climbs.ex
  obtain ⟨f_law_marked_rows, fd_law_marked_rows, ps_law_marked_rows, O_law_marked_rows, g_law_marked_rows, k_law_marked_rows, b_law_marked_rows⟩ := H_law_marked_rows.ex
  obtain ⟨f_law_roll, fd_law_roll, ps_law_roll, O_law_roll, g_law_roll, k_law_roll, b_law_roll⟩ := H_law_roll.ex
  obtain ⟨f_law_right, fd_law_right, ps_law_right, O_law_right, g_law_right, k_law_right, b_law_right⟩ := H_law_right.ex
  obtain ⟨f_law_dice, fd_law_dice, ps_law_dice, O_law_dice, g_law_dice, k_law_dice, b_law_dice⟩ := H_law_dice.ex
  have nd := sc_law.nd
  refine ⟨f, fd, ["script"], FP.ok (N := N_law) sc_law (fun vs H Q E h => h.1) (fun cdv A outer s H vs Q E hr h => ⟨_, PSs.nox ?_, fn_reads (N := N_law) (m := 6) rfl vs Q E h⟩), g, FP.kp, FP.bindsN fun _ _ _ _ _ _ us hl => match us, hl with | [_], _ => rfl⟩
  exact (tps_cons (fr PassesOwn.never rfl (r1 B.range (a1 (to_val (cb (call_max2 rfl) ok_max2 B.max rfl (a1 (to_val cI) (a1 (to_val (cb (call_min2 rfl) ok_min2 B.min rfl (a1 (to_val cI) (a1 (to_val (cb call_len_seq (ok_len rfl) B.len rfl (a1 (sl 0) tpa_nil))) tpa_nil)))) tpa_nil)))) tpa_nil)) (gn 1 nd) (tps_cons (stv 2 nd (cu O_law_dice hr g_law_dice k_law_dice b_law_dice (a1 (to_val (rd 0)) (a1 (to_val (rd 1)) tpa_nil)))) (tps_cons (fr PassesOwn.never rfl (r1 B.range (a1 (to_val cI) tpa_nil)) (gn 3 nd) (tps_cons (tps_if (tpt_not (tv (cu O_law_right hr g_law_right k_law_right b_law_right (a1 (sl 2) tpa_nil)))) (tps_cons (tps_ret cB) tps_nil) tps_nil) tps_nil)) (tps_cons (stv 4 nd (tpe_op op_addA (ok_add rfl) (to_val cI) (to_val (cu O_law_roll hr g_law_roll k_law_roll b_law_roll (a1 (sl 2) (a1 (to_val cI) tpa_nil)))))) (tps_cons (fr PassesOwn.never rfl (r1 B.range (a1 (sl 4) tpa_nil)) (gn 5 nd) (tps_cons (tps_if (cmT (op_neD hr.units) (ok_ne rfl) (to_val (cg O_marked_rows hr g_marked_rows k_marked_rows b_marked_rows B.list (a1 (to_val (rd 4)) (a1 (to_val (rd 5)) tpa_nil)))) (to_val (cu O_law_marked_rows hr g_law_marked_rows k_law_marked_rows b_law_marked_rows (a1 (to_val (rd 4)) (a1 (to_val (rd 5)) tpa_nil))))) (tps_cons (tps_ret cB) tps_nil) tps_nil) tps_nil)) (tps_cons (tps_par2 (i := 4) (j := 5) rfl nd rfl rfl (by decide) rfl rfl cI (cu O_law_roll hr g_law_roll k_law_roll b_law_roll (a1 (sl 2) (a1 (to_val cI) tpa_nil))) rfl rfl rfl rfl) (tps_cons (tps_if (cmT (op_neD hr.units) (ok_ne rfl) (to_val (cg O_marked_rows hr g_marked_rows k_marked_rows b_marked_rows B.list (a1 (to_val (rd 4)) (a1 (to_val (rd 5)) tpa_nil)))) (to_val (cu O_law_marked_rows hr g_law_marked_rows k_law_marked_rows b_law_marked_rows (a1 (to_val (rd 4)) (a1 (to_val (rd 5)) tpa_nil))))) (tps_cons (tps_ret cB) tps_nil) tps_nil) tps_nil))))))) (tps_cons (tps_ret (cm (op_eqD hr.units) (ok_eq rfl) (to_val (cb call_len_seq (ok_len rfl) B.len rfl (a1 (to_val (cg O_marked_rows hr g_marked_rows k_marked_rows b_marked_rows B.list (a1 (to_val cI) (a1 (to_val cI) tpa_nil)))) tpa_nil))) (to_val (cb (cr_sumB rfl) (ok_sum rfl) B.sum rfl (a1 (to_val (tpe_lc (own := [("row", 6)]) rfl nd (tpi_seq rfl (to_val (cu O_law_area_rows hr g_law_area_rows k_law_area_rows b_law_area_rows (a1 (to_val cI) tpa_nil)))) (blkOk_by (N := N_law) (sc := defScope (top 43)) (own := [("row", 6)]) (by decide +kernel)) (fun _ _ _ _ _ => (gn 6 nd)) (fun _ _ _ _ _ => tpts_nil) (fun _ _ _ _ _ => (to_val (cb call_len_seq (ok_len rfl) B.len rfl (a1 (to_val (cu O_law_climbs hr g_law_climbs k_law_climbs b_law_climbs (a1 (to_val (rd 6)) tpa_nil))) tpa_nil)))) (by intro _; rfl) (by decide))) tpa_nil))))) tps_nil))
abbrev F_law := B_law
end
end T

-- text V1
set_option Elab.async false
set_option linter.all false
set_option maxRecDepth 100000
set_option maxHeartbeats 4000000
namespace T
open PySem L2
theorem fIx_lst {ds : List D} {i : Int} {d : D} (k : Nat) (h : i = (k : Int)) (e : ds[k]? = some d) : fIx (.lst ds) (.int i) = some (.val d) := by
  subst h
  have hk : k < ds.length := (List.getElem?_eq_some_iff.mp e).1
  unfold fIx seqAt atI ixN
  have : ((k : Nat) : Int) < (ds.length : Int) := by omega
  simp [this, e]
theorem fIx_tup {ds : List D} {i : Int} {d : D} (k : Nat) (h : i = (k : Int)) (e : ds[k]? = some d) : fIx (.tup ds) (.int i) = some (.val d) := by
  subst h
  have hk : k < ds.length := (List.getElem?_eq_some_iff.mp e).1
  unfold fIx seqAt atI ixN
  have : ((k : Nat) : Int) < (ds.length : Int) := by omega
  simp [this, e]
section
variable {a b c n : Int}
theorem ix3_0 {x y z : D} : fIx (.lst [x, y, z]) (.int 0) = some (.val x) := fIx_lst 0 rfl rfl
theorem ix3_1 {x y z : D} : fIx (.lst [x, y, z]) (.int 1) = some (.val y) := fIx_lst 1 rfl rfl
theorem ix3_2 {x y z : D} : fIx (.lst [x, y, z]) (.int 2) = some (.val z) := fIx_lst 2 rfl rfl
theorem ixN3_0 : ixN 3 0 = some 0 := rfl
theorem ixN3_2 : ixN 3 2 = some 2 := rfl
theorem roll_pos (h : 0 < a) (hn : 0 < n) (hn2 : n ≤ 1000) : B_law_roll [.io (.lst [.int a, .int b, .int c]), .fz (.int n)] = .ok (.fz (.int (a % n))) [.io (.lst [.int (a / n), .int b, .int c]), .fz (.int n)] := by
  have e2 : cMod a n = true := by simp [cMod, hn]
  have e3 : cDiv a n = true := by
    unfold cDiv
    rw [decide_eq_true hn, Bool.true_and, Nat.blt_eq]
    have : n.natAbs < 2 ^ 10 := by omega
    by_cases hz : n.natAbs = 0
    · omega
    · have := (Nat.log2_lt hz).mpr this
      omega
  simp [B_law_roll, s_law_roll, fnB, sSeq, sNx, sIf, sRet, sRetN, sSet, sSetIx, sExpr, Out.toS, Out.bind, Out.bindN, eOp, eCall, aCons, aNil, look, looks, slD, fO, eRd, eMv, oSl, eC, ofB, BR.out, nxO, stG, R.sl, Sl.isIo, eAnd, eOr, eNot, bAnd, bOr, bNot, toT, eTup, eLst, dsOf, fI, fIc, Sl.lst, Sl.putL, ioOut, List.replicate, List.cons_append, List.nil_append, List.getElem?_cons_zero, List.getElem?_cons_succ, List.set_cons_zero, List.set_cons_succ, eCallN, mkArgs, mkArg, mkSl, disA, slIn, putArgs, reSl, eChain, eIf, eNeg, bInt, fGt, fMod, fDiv, ix3_0, ix3_1, ix3_2, h, e2, e3, ixN3_0, ixN3_2]

theorem cMul_small {i j : Int} (hi : i.natAbs < 2 ^ 400000) (hj : j.natAbs < 2 ^ 400000) : cMul i j = true := by
  unfold cMul
  rw [Nat.blt_eq]
  have h1 : i.natAbs.log2 < 400000 := by
    by_cases hz : i.natAbs = 0
    · rw [hz]; decide
    · exact (Nat.log2_lt hz).mpr hi
  have h2 : j.natAbs.log2 < 400000 := by
    by_cases hz : j.natAbs = 0
    · rw [hz]; decide
    · exact (Nat.log2_lt hz).mpr hj
  omega
theorem big_pow {x : Nat} (h : x < 2 ^ 200) : x < 2 ^ 400000 := Nat.lt_of_lt_of_le h (Nat.pow_le_pow_right (by decide) (by decide))
theorem natAbs_lt {i : Int} {m : Nat} (h0 : 0 ≤ i) (h : i < (m : Int)) : i.natAbs < m := by omega
theorem cMul_200 {i j : Int} (hi0 : 0 ≤ i) (hi : i < ((2 ^ 200 : Nat) : Int)) (hj0 : 0 ≤ j) (hj : j < ((2 ^ 200 : Nat) : Int)) : cMul i j = true :=
  cMul_small (big_pow (natAbs_lt hi0 hi)) (big_pow (natAbs_lt hj0 hj))
theorem cMod_of {i j : Int} (h : 0 < j) : cMod i j = true := by simp [cMod, h]
theorem cDiv_of {i j : Int} (h : 0 < j) (h2 : j ≤ 10000) : cDiv i j = true := by
  unfold cDiv
  rw [decide_eq_true h, Bool.true_and, Nat.blt_eq]
  have : j.natAbs < 2 ^ 20 := by omega
  by_cases hz : j.natAbs = 0
  · omega
  · have := (Nat.log2_lt hz).mpr this
    omega
theorem roll_zero (h : ¬ 0 < a) (hn : 0 < n) (hn2 : n ≤ 1000) (hb0 : 0 ≤ b) (hb : b < 2147482409) (hc0 : 0 ≤ c) (hc : c < 1000) : ∃ k, B_law_roll [.io (.lst [.int a, .int b, .int c]), .fz (.int n)] = .ok (.fz (.int (k % n))) [.io (.lst [.int a, .int b, .int (c + 1)]), .fz (.int n)] := by
  have p61 : (0 : Int) < 2305843009213693951 := by decide
  have m1 : cMul 1000409 (c + 1) = true := cMul_200 (by decide) (by decide) (by omega) (Int.lt_of_lt_of_le (show c + 1 < 2000 by omega) (by decide))
  have m3 : cMul 9533 (c + 1) = true := cMul_200 (by decide) (by decide) (by omega) (Int.lt_of_lt_of_le (show c + 1 < 2000 by omega) (by decide))
  generalize ho : (b + 1000409 * (c + 1)) % 2305843009213693951 = one
  have o0 : 0 ≤ one := by rw [← ho]; exact Int.emod_nonneg _ (by decide)
  have o1 : one < 2305843009213693951 := by rw [← ho]; exact Int.emod_lt_of_pos _ (by decide)
  have m2 : cMul one one = true := cMul_200 o0 (Int.lt_of_lt_of_le o1 (by decide)) o0 (Int.lt_of_lt_of_le o1 (by decide))
  have t0 : 0 ≤ one * one % 2305843009213693921 := Int.emod_nonneg _ (by decide)
  have t1 : one * one % 2305843009213693921 < 2305843009213693921 := Int.emod_lt_of_pos _ (by decide)
  have m4 : cMul (one * one % 2305843009213693921) one = true := cMul_200 t0 (Int.lt_of_lt_of_le t1 (by decide)) o0 (Int.lt_of_lt_of_le o1 (by decide))
  have e2 : ∀ i, cMod i n = true := fun i => cMod_of hn
  have q1 : ∀ i, cMod i 2305843009213693951 = true := fun i => cMod_of (by decide)
  have q2 : ∀ i, cMod i 2305843009213693921 = true := fun i => cMod_of (by decide)
  have q3 : ∀ i, cMod i 2305843009213693907 = true := fun i => cMod_of (by decide)
  have q4 : ∀ i, cDiv i 4096 = true := fun i => cDiv_of (by decide) (by decide)
  exact ⟨_, by simp [B_law_roll, s_law_roll, fnB, sSeq, sNx, sIf, sRet, sRetN, sSet, sSetIx, sExpr, Out.toS, Out.bind, Out.bindN, eOp, eCall, aCons, aNil, look, looks, slD, fO, eRd, eMv, oSl, eC, ofB, BR.out, nxO, stG, R.sl, Sl.isIo, eAnd, eOr, eNot, bAnd, bOr, bNot, toT, eTup, eLst, dsOf, fI, fIc, Sl.lst, Sl.putL, ioOut, List.replicate, List.cons_append, List.nil_append, List.getElem?_cons_zero, List.getElem?_cons_succ, List.set_cons_zero, List.set_cons_succ, eCallN, mkArgs, mkArg, mkSl, disA, slIn, putArgs, reSl, eChain, eIf, eNeg, bInt, fGt, fMod, fDiv, fMul, fAdd, ix3_0, ix3_1, ix3_2, h, ixN3_0, ixN3_2, m1, m2, m3, m4, e2, q1, q2, q3, q4, ho]; rfl⟩
/-- dice: the counter is at most m -/
def Dice (m : Int) (d : D) : Prop := ∃ a b c, d = .lst [.int a, .int b, .int c] ∧ 0 ≤ b ∧ b < 2147482409 ∧ 0 ≤ c ∧ c ≤ m
theorem Dice.mono {m m' : Int} {d : D} (h : Dice m d) (l : m ≤ m') : Dice m' d := by
  obtain ⟨a, b, c, e, h1, h2, h3, h4⟩ := h
  exact ⟨a, b, c, e, h1, h2, h3, by omega⟩
theorem roll_ok {m : Int} {d : D} (h : Dice m d) (hm : m < 999) (hn : 0 < n) (hn2 : n ≤ 1000) : ∃ k d', B_law_roll [.io d, .fz (.int n)] = .ok (.fz (.int k)) [.io d', .fz (.int n)] ∧ Dice (m + 1) d' ∧ 0 ≤ k ∧ k < n := by
  obtain ⟨a, b, c, rfl, h1, h2, h3, h4⟩ := h
  by_cases ha : 0 < a
  · exact ⟨_, _, roll_pos ha hn hn2, ⟨_, _, _, rfl, h1, h2, h3, by omega⟩, Int.emod_nonneg _ (by omega), Int.emod_lt_of_pos _ hn⟩
  · obtain ⟨k, e⟩ := roll_zero (a := a) (b := b) (c := c) ha hn hn2 h1 h2 h3 (by omega)
    exact ⟨_, _, e, ⟨_, _, _, rfl, h1, h2, by omega, by omega⟩, Int.emod_nonneg _ (by omega), Int.emod_lt_of_pos _ hn⟩
end
end T

-- text V2
set_option Elab.async false
set_option linter.all false
set_option maxRecDepth 100000
set_option maxHeartbeats 4000000
namespace T
open PySem L2
theorem one_of_ok {m : Int} {d : D} {ds : List D} (h : Dice m d) (hm : m < 999) (hn : ds ≠ []) (hn2 : ds.length ≤ 1000) : ∃ x d', B_law_one_of [.io d, .fz (.lst ds)] = .ok (.fz x) [.io d', .fz (.lst ds)] ∧ x ∈ ds ∧ Dice (m + 1) d' := by
  have hl : 0 < ds.length := List.length_pos_iff.mpr hn
  obtain ⟨k, d', e, hd, k0, k1⟩ := roll_ok (n := (ds.length : Int)) h hm (by omega) (by omega)
  obtain ⟨j, rfl⟩ : ∃ j : Nat, k = (j : Int) := ⟨k.toNat, by omega⟩
  have hj : j < ds.length := by omega
  have ex := fIx_lst (ds := ds) j rfl (List.getElem?_eq_getElem hj)
  exact ⟨ds[j], d', by simp [B_law_one_of, s_law_one_of, F_law_roll, fnB, sSeq, sNx, sIf, sRet, sRetN, sSet, sSetIx, sExpr, Out.toS, Out.bind, Out.bindN, eOp, eCall, aCons, aNil, look, looks, slD, fO, eRd, eMv, oSl, eC, ofB, BR.out, nxO, stG, R.sl, Sl.isIo, eAnd, eOr, eNot, bAnd, bOr, bNot, toT, eTup, eLst, dsOf, fI, fIc, Sl.lst, Sl.putL, ioOut, List.replicate, List.cons_append, List.nil_append, List.getElem?_cons_zero, List.getElem?_cons_succ, List.set_cons_zero, List.set_cons_succ, eCallN, mkArgs, mkArg, mkSl, disA, slIn, putArgs, reSl, eChain, eIf, eNeg, bLen, Nat.beq, e, ex], List.getElem_mem hj, hd⟩
theorem intD_map : ∀ is : List Int, intD is = is.map D.int
  | [] => rfl
  | i :: is => by rw [intD, intD_map is]; rfl
theorem intD_len (is : List Int) : (intD is).length = is.length := by rw [intD_map, List.length_map]
theorem intD_get (is : List Int) (k : Nat) : (intD is)[k]? = is[k]?.map D.int := by rw [intD_map, List.getElem?_map]
theorem intsOf_intD : ∀ is : List Int, intsOf (intD is) = some is
  | [] => rfl
  | i :: is => by unfold intD intsOf; rw [intsOf_intD is]
theorem intD_app (a b : List Int) : intD (a ++ b) = intD a ++ intD b := by simp [intD_map]
theorem shL_intD (n : Nat) : ∀ is : List Int, shL n (intD is) = true
  | [] => by simp [intD, shL]
  | i :: is => by simp [intD, shL, shD, shL_intD n is]
theorem eqdL_intD : ∀ a b : List Int, eqdL (intD a) (intD b) = decide (a = b)
  | [], [] => by simp [intD, eqdL]
  | [], b :: bs => by simp [intD, eqdL]
  | a :: as, [] => by simp [intD, eqdL]
  | a :: as, b :: bs => by
    simp only [intD, eqdL, eqd, eqdL_intD as bs]
    by_cases h : a = b
    · subst h; simp
    · have : (a == b) = false := by simpa using h
      simp [this, h]
theorem fEq_lst (neg : Bool) (a b : List Int) : fEq neg (.lst (intD a)) (.lst (intD b)) = some (.val (.bl (if neg = true then !decide (a = b) else decide (a = b)))) := by
  unfold fEq
  simp only [shD, shL_intD, eqd, eqdL_intD, Bool.and_self]
theorem fEq_tup (neg : Bool) (a b : List Int) : fEq neg (.tup (intD a)) (.tup (intD b)) = some (.val (.bl (if neg = true then !decide (a = b) else decide (a = b)))) := by
  unfold fEq
  simp only [shD, shL_intD, eqd, eqdL_intD, Bool.and_self]
theorem fEq_nil (neg : Bool) (a : List Int) : fEq neg (.lst (intD a)) (.lst []) = some (.val (.bl (if neg = true then !decide (a = []) else decide (a = [])))) := fEq_lst neg a []
theorem fEq_int (neg : Bool) (a b : Int) : fEq neg (.int a) (.int b) = some (.val (.bl (if neg = true then !decide (a = b) else decide (a = b)))) := by
  unfold fEq
  simp only [shD, eqd, Bool.and_self]
  by_cases h : a = b
  · subst h; simp
  · have : (a == b) = false := by simpa using h
    simp [this, h]
theorem intD_erase : ∀ (l : List Int) (k : Nat), (intD l).eraseIdx k = intD (l.eraseIdx k)
  | [], _ => rfl
  | a :: l, 0 => rfl
  | a :: l, k + 1 => by
    show D.int a :: (intD l).eraseIdx k = D.int a :: intD (l.eraseIdx k)
    rw [intD_erase l k]
theorem seqIx_nat {k n : Nat} (h : k < n) : seqIndex? (k : Int) n = some k := by
  unfold seqIndex?
  simp
  omega
theorem fAppend_ok {l : List Int} {x : Int} (h : l.length < 1000) : fAppend [.int x] (intD l) = some (.non, intD (l ++ [x])) := by
  show (match fitN ((intD l).length + 1) with
    | true => some (D.non, intD l ++ [D.int x])
    | false => none) = _
  have : fitN ((intD l).length + 1) = true := by
    rw [intD_len]
    unfold fitN
    exact Nat.ble_eq_true_of_le (by omega)
  rw [this, intD_app]
  rfl
theorem popAt_gen {i : Int} {ds : List D} {j : Nat} {d : D} (h1 : decide (-9223372036854775808 ≤ i) = true) (h2 : decide (i < 9223372036854775808) = true) (h3 : seqIndex? i ds.length = some j) (h4 : ds[j]? = some d) : fPopAt [.int i] ds = some (d, ds.eraseIdx j) := by
  unfold fPopAt
  simp only [h1, h2, Bool.and_self, h3, h4]
theorem popAt_ok {l : List Int} {k : Nat} (hk : k < l.length) (hl : l.length < 1000) : fPopAt [.int (k : Int)] (intD l) = some (.int l[k], intD (l.eraseIdx k)) := by
  have h1 : decide ((-9223372036854775808 : Int) ≤ (k : Int)) = true := decide_eq_true (Int.le_trans (show (-9223372036854775808 : Int) ≤ 0 by decide) (Int.natCast_nonneg k))
  have h2 : decide ((k : Int) < 9223372036854775808) = true := decide_eq_true (Int.lt_of_lt_of_le (show (k : Int) < 1000 by omega) (by decide))
  have h3 : seqIndex? (k : Int) (intD l).length = some k := by rw [intD_len]; exact seqIx_nat hk
  have h4 : (intD l)[k]? = some (.int l[k]) := by rw [intD_get, List.getElem?_eq_getElem hk]; rfl
  rw [popAt_gen h1 h2 h3 h4, intD_erase]
theorem erase_perm : ∀ (l : List Int) (k : Nat) (hk : k < l.length), (l[k] :: l.eraseIdx k).Perm l
  | a :: l, 0, _ => .refl _
  | a :: l, k + 1, hk => by
    have hk' : k < l.length := by simpa using hk
    show (l[k] :: a :: l.eraseIdx k).Perm (a :: l)
    exact (List.Perm.swap a l[k] _).trans ((erase_perm l k hk').cons a)
/-- what a roll does -/
def Rolls (F : Gam → Out R) : Prop := ∀ (m : Int) (d : D) (n : Int), Dice m d → m < 999 → 0 < n → n ≤ 1000 → ∃ k d', F [.io d, .fz (.int n)] = .ok (.fz (.int k)) [.io d', .fz (.int n)] ∧ Dice (m + 1) d' ∧ 0 ≤ k ∧ k < n
theorem rolls : Rolls B_law_roll := fun _ _ _ h hm hn hn2 => roll_ok h hm hn hn2
theorem mixed_go {F : Gam → Out R} (hF : Rolls F) {I : Sl} : ∀ (fuel : Nat) (l fnd : List Int) (d : D) (m : Int), l.length < fuel → l.length + fnd.length < 1000 → Dice m d → m + l.length < 999 →
    ∃ d' es, sWhile (toT (eOp (fEq true) (oSl 2) (fO (eLst aNil)))) (sSeq (sExpr (eMeth 3 fAppend (aCons (fO (eMeth 2 fPopAt (aCons (fO (eCallN 2 F (aCons (oSl 0) (aCons (fO (eCall bLen (aCons (oSl 2) aNil))) aNil)))) aNil))) aNil))) sNx) fuel [.io d, I, .own (.lst (intD l)), .own (.lst (intD fnd))]
      = .nx [.io d', I, .own (.lst []), .own (.lst (intD (fnd ++ es)))] ∧ es.Perm l ∧ Dice (m + l.length) d'
  | 0, l, _, _, _, h, _, _, _ => absurd h (Nat.not_lt_zero _)
  | fuel + 1, l, fnd, d, m, hf, hs, hd, hm => by
    have f0 : fitN (([] : List D).length) = true := by decide
    have f00 : fitN 0 = true := by decide
    cases l with
    | nil =>
      refine ⟨d, [], ?_, .refl _, by simpa using hd⟩
      unfold sWhile
      have ee := fEq_nil true []
      have e3 : intD ([] : List Int) = [] := rfl
      rw [e3] at ee ⊢
      simp only [fnB, sSeq, sNx, sIf, sRet, sRetN, sSet, sSetIx, sExpr, Out.toS, Out.bind, Out.bindN, eOp, eCall, aCons, aNil, look, looks, slD, fO, eRd, eMv, oSl, eC, ofB, BR.out, nxO, stG, R.sl, Sl.isIo, eAnd, eOr, eNot, bAnd, bOr, bNot, toT, eTup, eLst, dsOf, fI, fIc, Sl.lst, Sl.putL, ioOut, List.replicate, List.cons_append, List.nil_append, List.getElem?_cons_zero, List.getElem?_cons_succ, List.set_cons_zero, List.set_cons_succ, eCallN, mkArgs, mkArg, mkSl, disA, slIn, putArgs, reSl, eChain, eIf, eNeg, f0, ee, decide_true, Bool.not_true, if_true, Bool.false_eq_true, if_false, List.append_nil]
    | cons x l0 =>
      obtain ⟨k, d1, e, hd1, k0, k1⟩ := hF m d ((x :: l0).length : Int) hd (by simp at hm ⊢; omega) (by simp) (by simp at hs ⊢; omega)
      obtain ⟨j, hjk⟩ : ∃ j : Nat, k = (j : Int) := ⟨k.toNat, by omega⟩
      have hj : j < (x :: l0).length := by omega
      have hp : fPopAt [.int k] (intD (x :: l0)) = some (.int (x :: l0)[j], intD ((x :: l0).eraseIdx j)) := by rw [hjk]; exact popAt_ok hj (by omega)
      have hlen : ((x :: l0).eraseIdx j).length = l0.length := by rw [List.length_eraseIdx_of_lt hj]; simp
      obtain ⟨d2, es, e2, p2, hd2⟩ := mixed_go hF (I := I) fuel ((x :: l0).eraseIdx j) (fnd ++ [(x :: l0)[j]]) d1 (m + 1) (by rw [hlen]; simp at hf; omega) (by rw [hlen]; simp at hs ⊢; omega) hd1 (by rw [hlen]; simp at hm; omega)
      refine ⟨d2, (x :: l0)[j] :: es, ?_, (p2.cons _).trans (erase_perm _ j hj), by rw [hlen] at hd2; refine hd2.mono ?_; simp; omega⟩
      have ee := fEq_nil true (x :: l0)
      have fa := fAppend_ok (l := fnd) (x := (x :: l0)[j]) (by omega)
      unfold sWhile
      rw [← intD_len (x :: l0)] at e
      rw [List.append_assoc, List.singleton_append] at e2
      simp only [fnB, sSeq, sNx, sIf, sRet, sRetN, sSet, sSetIx, sExpr, Out.toS, Out.bind, Out.bindN, eOp, eCall, aCons, aNil, look, looks, slD, fO, eRd, eMv, oSl, eC, ofB, BR.out, nxO, stG, R.sl, Sl.isIo, eAnd, eOr, eNot, bAnd, bOr, bNot, toT, eTup, eLst, dsOf, fI, fIc, Sl.lst, Sl.putL, ioOut, List.replicate, List.cons_append, List.nil_append, List.getElem?_cons_zero, List.getElem?_cons_succ, List.set_cons_zero, List.set_cons_succ, eCallN, mkArgs, mkArg, mkSl, disA, slIn, putArgs, reSl, eChain, eIf, eNeg, f0, f00, ee, eMeth, bLen, Nat.beq, e, hp, fa, List.length_cons, List.length_nil, decide_eq_true_eq, reduceCtorEq, decide_false, Bool.not_false, if_true, Bool.and_self, Bool.not_true, Bool.or_self, Bool.false_eq_true] at e2 ⊢
      exact e2
end T

-- text V3
set_option Elab.async false
set_option linter.all false
set_option maxRecDepth 100000
set_option maxHeartbeats 4000000
namespace T
open PySem L2
theorem mixed_ok {m : Int} {d : D} {l : List Int} (h : Dice m d) (hm : m < 900) (hl : l.length < 8) : ∃ d' es, B_law_mixed [.io d, .fz (.lst (intD l))] = .ok (.own (.lst (intD es))) [.io d', .fz (.lst (intD l))] ∧ es.Perm l ∧ Dice (m + 8) d' := by
  obtain ⟨d', es, e, p, hd⟩ := mixed_go (F := F_law_roll) rolls (I := .fz (.lst (intD l))) 8 l [] d m hl (by simp; omega) h (by omega)
  refine ⟨d', es, ?_, p, hd.mono (by omega)⟩
  have f0 : fitN (([] : List D).length) = true := by decide
  have e0 : intD ([] : List Int) = [] := rfl
  rw [e0, List.nil_append] at e
  unfold B_law_mixed s_law_mixed
  generalize (sWhile _ _) = wh at e ⊢
  simp only [fnB, sSeq, sNx, sIf, sRet, sRetN, sSet, sSetIx, sExpr, Out.toS, Out.bind, Out.bindN, eOp, eCall, aCons, aNil, look, looks, slD, fO, eRd, eMv, oSl, eC, ofB, BR.out, nxO, stG, R.sl, Sl.isIo, eAnd, eOr, eNot, bAnd, bOr, bNot, toT, eTup, eLst, dsOf, fI, fIc, Sl.lst, Sl.putL, ioOut, List.replicate, List.cons_append, List.nil_append, List.getElem?_cons_zero, List.getElem?_cons_succ, List.set_cons_zero, List.set_cons_succ, eCallN, mkArgs, mkArg, mkSl, disA, slIn, putArgs, reSl, eChain, eIf, eNeg, sPar2, bList, f0, e]
/-- a start of dice -/
theorem dice_ok (ns : List Int) (k : Nat) (hk : k < 64) : ∃ d, B_law_dice [.fz (.frz (intD ns)), .fz (.int (k : Int))] = .ok (.own d) [.fz (.frz (intD ns)), .fz (.int (k : Int))] ∧ Dice 0 d := by
  have q1 : ∀ i, cMod i 2147482417 = true := fun i => cMod_of (by decide)
  have q2 : ∀ i, cMod i 2147482409 = true := fun i => cMod_of (by decide)
  have p1 : cPow 10 61 = true := by decide +kernel
  have p2 : cPow (10 ^ (61 : Int).toNat) 10 = true := by decide +kernel
  have p3 : cPow 10 18 = true := by decide +kernel
  have q3 : ∀ i, cMod i ((10 ^ (61 : Int).toNat) ^ (10 : Int).toNat) = true := fun i => cMod_of (by decide +kernel)
  have q4 : ∀ i, cDiv i (10 ^ (18 : Int).toNat) = true := fun i => by
    have : cDiv 0 (10 ^ (18 : Int).toNat) = true := by decide +kernel
    exact this
  have m1 : cMul 113 (k : Int) = true := cMul_200 (by decide) (by decide) (by omega) (Int.lt_of_lt_of_le (show (k : Int) < 64 by omega) (by decide))
  have m2 : cMul 4099 (k : Int) = true := cMul_200 (by decide) (by decide) (by omega) (Int.lt_of_lt_of_le (show (k : Int) < 64 by omega) (by decide))
  have m3 : ∀ i : Int, cMul (i % 2147482417) 70001 = true := fun i => cMul_200 (Int.emod_nonneg _ (by decide)) (Int.lt_of_lt_of_le (Int.emod_lt_of_pos _ (by decide)) (by decide)) (by decide) (by decide)
  have m4 : ∀ b : Bool, cMul 113 (if b = true then 1 else 0) = true := fun b => by cases b <;> decide
  have f3 : ∀ x y z : D, fitN ([x, y, z].length) = true := fun _ _ _ => rfl
  have big : ∃ x y : Int, B_law_dice [.fz (.frz (intD ns)), .fz (.int (k : Int))] = .ok (.own (.lst [.int x, .int (y % 2147482409), .int 0])) [.fz (.frz (intD ns)), .fz (.int (k : Int))] := by
    by_cases hb : k < ns.length
    · have h1 : decide ((k : Int) < ((intD ns).length : Int)) = true := decide_eq_true (by rw [intD_len]; omega)
      have h2 : fIx (.frz (intD ns)) (.int (k : Int)) = some (.val (.int ns[k])) := by
        have := fIx_lst (ds := intD ns) k rfl (d := .int ns[k]) (by rw [intD_get, List.getElem?_eq_getElem hb]; rfl)
        exact this
      generalize (k : Int) = i at h1 h2 m1 m2 ⊢
      exact ⟨_, _, by simp only [B_law_dice, s_law_dice, fnB, sSeq, sNx, sIf, sRet, sRetN, sSet, sSetIx, sExpr, Out.toS, Out.bind, Out.bindN, eOp, eCall, aCons, aNil, look, looks, slD, fO, eRd, eMv, oSl, eC, ofB, BR.out, nxO, stG, R.sl, Sl.isIo, eAnd, eOr, eNot, bAnd, bOr, bNot, toT, eTup, eLst, dsOf, fI, fIc, Sl.lst, Sl.putL, ioOut, List.replicate, List.cons_append, List.nil_append, List.getElem?_cons_zero, List.getElem?_cons_succ, List.set_cons_zero, List.set_cons_succ, eCallN, mkArgs, mkArg, mkSl, disA, slIn, putArgs, reSl, eChain, eIf, eNeg, bLen, bInt, bAbs, fMod, fDiv, fMul, fAdd, fPow, fLt, p1, p2, p3, q1, q2, q3, q4, m1, m2, m3, m4, f3, h1, h2, if_true]; rfl⟩
    · have h1 : decide ((k : Int) < ((intD ns).length : Int)) = false := decide_eq_false (by rw [intD_len]; omega)
      generalize (k : Int) = i at h1 m1 m2 ⊢
      exact ⟨_, _, by simp only [B_law_dice, s_law_dice, fnB, sSeq, sNx, sIf, sRet, sRetN, sSet, sSetIx, sExpr, Out.toS, Out.bind, Out.bindN, eOp, eCall, aCons, aNil, look, looks, slD, fO, eRd, eMv, oSl, eC, ofB, BR.out, nxO, stG, R.sl, Sl.isIo, eAnd, eOr, eNot, bAnd, bOr, bNot, toT, eTup, eLst, dsOf, fI, fIc, Sl.lst, Sl.putL, ioOut, List.replicate, List.cons_append, List.nil_append, List.getElem?_cons_zero, List.getElem?_cons_succ, List.set_cons_zero, List.set_cons_succ, eCallN, mkArgs, mkArg, mkSl, disA, slIn, putArgs, reSl, eChain, eIf, eNeg, bLen, bInt, bAbs, fMod, fDiv, fMul, fAdd, fPow, fLt, p1, p2, p3, q1, q2, q3, q4, m1, m2, m3, m4, f3, h1, if_true, Bool.false_eq_true, if_false]; rfl⟩
  obtain ⟨x, y, e⟩ := big
  exact ⟨_, e, _, _, _, rfl, Int.emod_nonneg _ (by decide), Int.emod_lt_of_pos _ (by decide), Int.le_refl _, Int.le_refl _⟩
end T

-- text V4
set_option Elab.async false
set_option linter.all false
set_option maxRecDepth 100000
set_option maxHeartbeats 4000000
namespace T
open PySem L2
theorem lc_map {α : Type} {vs : List Nat} {f : D → Gam → Option Gam} {t : Gam → Out Bool} {e : Gam → Out Ar} {γ : Gam} (cst : α → D) (gx : α → Gam) (p : α → Bool) (g : α → D) : ∀ (xs : List α) (c : Nat), (∀ x ∈ xs, f (cst x) γ = some (gx x)) → (∀ x ∈ xs, t (gx x) = .ok (p x) (gx x)) → (∀ x ∈ xs, p x = true → e (gx x) = .ok (.d (g x)) (gx x)) → (∀ x ∈ xs, unO vs (gx x) = some γ) → c + xs.length ≤ 16777216 →
    lcGo vs f t e (xs.map cst) c γ = .ok ((xs.filter p).map g) γ
  | [], c, _, _, _, _, _ => rfl
  | x :: xs, c, h1, h2, h3, h4, h5 => by
    have i1 : ∀ y ∈ xs, y ∈ x :: xs := fun y hy => List.mem_cons_of_mem _ hy
    have mx : x ∈ x :: xs := List.mem_cons_self
    have hl : (x :: xs).length = xs.length + 1 := rfl
    unfold lcGo
    rw [List.map_cons]
    simp only [h1 x mx, h2 x mx, Out.bindN]
    cases hp : p x with
    | true =>
      have hb : Nat.blt c 16777216 = true := by rw [Nat.blt_eq]; omega
      have ih := lc_map cst gx p g xs (c + 1) (fun y hy => h1 y (i1 y hy)) (fun y hy => h2 y (i1 y hy)) (fun y hy => h3 y (i1 y hy)) (fun y hy => h4 y (i1 y hy)) (by omega)
      simp only [h3 x mx hp, hb, h4 x mx, ih, Out.bind]
      rw [List.filter_cons_of_pos hp, List.map_cons]
    | false =>
      have ih := lc_map cst gx p g xs c (fun y hy => h1 y (i1 y hy)) (fun y hy => h2 y (i1 y hy)) (fun y hy => h3 y (i1 y hy)) (fun y hy => h4 y (i1 y hy)) (by omega)
      simp only [h4 x mx, ih]
      rw [List.filter_cons_of_neg (by simp [hp])]
theorem eLc_map {α : Type} {mi : Gam → Out (List D)} {vs : List Nat} {f : D → Gam → Option Gam} {t : Gam → Out Bool} {e : Gam → Out Ar} {γ : Gam} (cst : α → D) (gx : α → Gam) (p : α → Bool) (g : α → D) (xs : List α) (hm : mi γ = .ok (xs.map cst) γ) (hu : unO vs γ = some γ) (h1 : ∀ x ∈ xs, f (cst x) γ = some (gx x)) (h2 : ∀ x ∈ xs, t (gx x) = .ok (p x) (gx x)) (h3 : ∀ x ∈ xs, p x = true → e (gx x) = .ok (.d (g x)) (gx x)) (h4 : ∀ x ∈ xs, unO vs (gx x) = some γ) (h5 : xs.length ≤ 16777216) :
    eLc mi vs f t e γ = .ok (.own (.lst ((xs.filter p).map g))) γ := by
  unfold eLc
  simp only [hm, Out.bind, hu, lc_map cst gx p g xs 0 h1 h2 h3 h4 (by omega)]
/-! which values are ints -/
def wh : D → Bool
  | .int _ => true
  | _ => false
def wi (a b : Int) : D → Bool
  | .int i => decide (a ≤ i) && decide (i ≤ b)
  | _ => false
def okK (d : D) : Bool := (kdOf d).isSome
theorem whole_ok (v : D) (h : okK v = true) : B_is_whole_number [.fz v] = .ok (.fz (.bl (wh v))) [.fz v] := by
  cases v <;> first | rfl | (exfalso; simp [okK, kdOf] at h; done) | skip
theorem within_ok (v : D) (a b : Int) (h : okK v = true) : B_is_within [.fz v, .fz (.int a), .fz (.int b)] = .ok (.fz (.bl (wi a b v))) [.fz v, .fz (.int a), .fz (.int b)] := by
  have hw := whole_ok v h
  cases hv : wh v with
  | false =>
    have : wi a b v = false := by cases v <;> first | rfl | (cases hv; done)
    rw [hv] at hw
    simp only [B_is_within, s_is_within, F_is_whole_number, fnB, sSeq, sNx, sIf, sRet, sRetN, sSet, sSetIx, sExpr, Out.toS, Out.bind, Out.bindN, eOp, eCall, aCons, aNil, look, looks, slD, fO, eRd, eMv, oSl, eC, ofB, BR.out, nxO, stG, R.sl, Sl.isIo, eAnd, eOr, eNot, bAnd, bOr, bNot, toT, eTup, eLst, dsOf, fI, fIc, Sl.lst, Sl.putL, ioOut, List.replicate, List.cons_append, List.nil_append, List.getElem?_cons_zero, List.getElem?_cons_succ, List.set_cons_zero, List.set_cons_succ, eCallN, mkArgs, mkArg, mkSl, disA, slIn, putArgs, reSl, eChain, eIf, eNeg, Nat.beq, List.length_cons, List.length_nil, hw, this, Bool.and_self, Bool.not_false]
  | true =>
    obtain ⟨i, rfl⟩ : ∃ i, v = .int i := by cases v <;> first | exact ⟨_, rfl⟩ | (cases hv; done)
    rw [hv] at hw
    cases h1 : decide (a ≤ i) with
    | true => simp only [B_is_within, s_is_within, F_is_whole_number, fnB, sSeq, sNx, sIf, sRet, sRetN, sSet, sSetIx, sExpr, Out.toS, Out.bind, Out.bindN, eOp, eCall, aCons, aNil, look, looks, slD, fO, eRd, eMv, oSl, eC, ofB, BR.out, nxO, stG, R.sl, Sl.isIo, eAnd, eOr, eNot, bAnd, bOr, bNot, toT, eTup, eLst, dsOf, fI, fIc, Sl.lst, Sl.putL, ioOut, List.replicate, List.cons_append, List.nil_append, List.getElem?_cons_zero, List.getElem?_cons_succ, List.set_cons_zero, List.set_cons_succ, eCallN, mkArgs, mkArg, mkSl, disA, slIn, putArgs, reSl, eChain, eIf, eNeg, Nat.beq, List.length_cons, List.length_nil, hw, fLe, h1, wi, Bool.true_and, Bool.and_self, Bool.not_false]
    | false => simp only [B_is_within, s_is_within, F_is_whole_number, fnB, sSeq, sNx, sIf, sRet, sRetN, sSet, sSetIx, sExpr, Out.toS, Out.bind, Out.bindN, eOp, eCall, aCons, aNil, look, looks, slD, fO, eRd, eMv, oSl, eC, ofB, BR.out, nxO, stG, R.sl, Sl.isIo, eAnd, eOr, eNot, bAnd, bOr, bNot, toT, eTup, eLst, dsOf, fI, fIc, Sl.lst, Sl.putL, ioOut, List.replicate, List.cons_append, List.nil_append, List.getElem?_cons_zero, List.getElem?_cons_succ, List.set_cons_zero, List.set_cons_succ, eCallN, mkArgs, mkArg, mkSl, disA, slIn, putArgs, reSl, eChain, eIf, eNeg, Nat.beq, List.length_cons, List.length_nil, hw, fLe, h1, wi, Bool.false_and, Bool.and_self, Bool.not_false]
def isTu : D → Bool
  | .tup _ => true
  | _ => false
theorem isi_tup (v : D) (h : okK v = true) : bIsi [v, .ty "tuple"] = some (.val (.bl (isTu v))) := by
  cases v <;> first | rfl | (exfalso; simp [okK, kdOf] at h; done)
def isBo : D → Bool
  | .bl _ => true
  | _ => false
theorem isi_bool (v : D) (h : okK v = true) : bIsi [v, .ty "bool"] = some (.val (.bl (isBo v))) := by
  cases v <;> first | rfl | (exfalso; simp [okK, kdOf] at h; done)
theorem isi_int (v : D) (h : okK v = true) : bIsi [v, .ty "int"] = some (.val (.bl (wh v || isBo v))) := by
  cases v <;> first | rfl | (exfalso; simp [okK, kdOf] at h; done)
theorem boolsOf_map {α : Type} (g : α → Bool) : ∀ xs : List α, boolsOf (xs.map fun x => D.bl (g x)) = some (xs.map g)
  | [] => rfl
  | x :: xs => by rw [List.map_cons, boolsOf, boolsOf_map g xs]; rfl
theorem bAll_map {α : Type} (g : α → Bool) (xs : List α) : bAll [.lst (xs.map fun x => D.bl (g x))] = some (.val (.bl (xs.all g))) := by
  unfold bAll
  dsimp only
  rw [boolsOf_map]
  simp [List.all_map]
theorem filter_yes {α : Type} (xs : List α) : xs.filter (fun _ => true) = xs := by simp
theorem sl1 (ds : List D) (γ : Gam) : ofB (fSl (.tup ds) (some 1) none) γ = .ok (.fz (.tup ds.tail)) γ := by
  cases ds with
  | nil => rfl
  | cons d ds =>
    have e : HT.sIx (d :: ds).length 0 (some 1) = 1 := by
      show HT.sIx (ds.length + 1) 0 (some 1) = 1
      unfold HT.sIx
      simp
    have e2 : HT.sIx (d :: ds).length (d :: ds).length none = (d :: ds).length := rfl
    unfold fSl
    dsimp only
    rw [e, e2]
    simp only [show (1 == 0 && (d :: ds).length == (d :: ds).length) = false from rfl, ofB, BR.out]
    unfold cutD
    rw [e, e2]
    simp
theorem zipD_int : ∀ a b : List Int, zipD (intD a) (intD b) = (a.zip b).map fun p => D.tup [.int p.1, .int p.2]
  | [], _ => rfl
  | _ :: _, [] => rfl
  | a :: as, b :: bs => by
    show D.tup [.int a, .int b] :: zipD (intD as) (intD bs) = _
    rw [zipD_int as bs]
    rfl
theorem intD_tail (a : List Int) : (intD a).tail = intD a.tail := by cases a <;> rfl
theorem ints_of_wh : ∀ ds : List D, ds.all wh = true → ∃ is, ds = intD is
  | [], _ => ⟨[], rfl⟩
  | d :: ds, h => by
    obtain ⟨h1, h2⟩ := Bool.and_eq_true_iff.mp (by simpa using h : (wh d && ds.all wh) = true)
    obtain ⟨is, rfl⟩ := ints_of_wh ds h2
    cases d <;> first | (cases h1; done) | skip
    rename_i i
    exact ⟨i :: is, rfl⟩
end T

-- text V5
set_option Elab.async false
set_option linter.all false
set_option maxRecDepth 100000
set_option maxHeartbeats 4000000
namespace T
open PySem L2
abbrev rowD (r : List Int) : D := .tup (intD r)
theorem intD_of {α : Type} (h : α → Int) (xs : List α) : (xs.map fun x => D.int (h x)) = intD (xs.map h) := by rw [intD_map, List.map_map]; rfl
/-- the values that are judged -/
def okV (v : D) : Bool := okK v && (match v with
  | .tup ds => ds.all okK && Nat.ble ds.length 1000
  | _ => true)
section
variable {r cs : List Int} {v : D}
abbrev cmpW : Gam → Out R := eLc (mIter (fO (eRd 1))) [3] (gNm 3) mYes (fO (eCallN 3 F_is_within (aCons (fO (eRd 3)) (aCons (fO (eC (.int 1))) (aCons (fO (eOp fSub (fO (eCall bLen (aCons (oSl 0) aNil))) (fO (eC (.int 1))))) aNil)))))
theorem cmpW_ok (ds : List D) (h : ds.all okK = true) (hl : ds.length ≤ 1000) : cmpW [.fz (rowD r), .fz (.tup ds), .un, .un, .un] = .ok (.own (.lst (ds.map fun d => D.bl (wi 1 ((r.length : Int) - 1) d)))) [.fz (rowD r), .fz (.tup ds), .un, .un, .un] := by
  have := eLc_map (mi := mIter (fO (eRd 1))) (vs := [3]) (f := gNm 3) (t := mYes) (e := fO (eCallN 3 F_is_within (aCons (fO (eRd 3)) (aCons (fO (eC (.int 1))) (aCons (fO (eOp fSub (fO (eCall bLen (aCons (oSl 0) aNil))) (fO (eC (.int 1))))) aNil))))) (γ := [.fz (rowD r), .fz (.tup ds), .un, .un, .un])
    id (fun d => [.fz (rowD r), .fz (.tup ds), .un, .fz d, .un]) (fun _ => true) (fun d => D.bl (wi 1 ((r.length : Int) - 1) d)) ds
    (by simp only [mIter, fnB, sSeq, sNx, sIf, sRet, sRetN, sSet, sSetIx, sExpr, Out.toS, Out.bind, Out.bindN, eOp, eCall, aCons, aNil, look, looks, slD, fO, eRd, eMv, oSl, eC, ofB, BR.out, nxO, stG, R.sl, Sl.isIo, eAnd, eOr, eNot, bAnd, bOr, bNot, toT, eTup, eLst, dsOf, fI, fIc, Sl.lst, Sl.putL, ioOut, List.replicate, List.cons_append, List.nil_append, List.getElem?_cons_zero, List.getElem?_cons_succ, List.set_cons_zero, List.set_cons_succ, eCallN, mkArgs, mkArg, mkSl, disA, slIn, putArgs, reSl, eChain, eIf, eNeg, List.map_id]) rfl (fun _ _ => rfl) (fun _ _ => rfl) (fun d hd _ => by
      have hw := within_ok d 1 ((r.length : Int) - 1) (List.all_eq_true.mp h d hd)
      simp only [fnB, sSeq, sNx, sIf, sRet, sRetN, sSet, sSetIx, sExpr, Out.toS, Out.bind, Out.bindN, eOp, eCall, aCons, aNil, look, looks, slD, fO, eRd, eMv, oSl, eC, ofB, BR.out, nxO, stG, R.sl, Sl.isIo, eAnd, eOr, eNot, bAnd, bOr, bNot, toT, eTup, eLst, dsOf, fI, fIc, Sl.lst, Sl.putL, ioOut, List.replicate, List.cons_append, List.nil_append, List.getElem?_cons_zero, List.getElem?_cons_succ, List.set_cons_zero, List.set_cons_succ, eCallN, mkArgs, mkArg, mkSl, disA, slIn, putArgs, reSl, eChain, eIf, eNeg, bLen, fSub, intD_len, F_is_within, Nat.beq, List.length_cons, List.length_nil, Bool.and_self, Bool.not_false, hw]) (fun _ _ => rfl) (by omega)
  rw [filter_yes] at this
  exact this
abbrev cmpM : Gam → Out R := eLc (mIter (fO (eRd 1))) [3] (gNm 3) mYes (fO (eOp (fIn false) (oSl 3) (oSl 2)))
theorem cmpM_ok (is : List Int) (hl : is.length ≤ 1000) : cmpM [.fz (rowD r), .fz (rowD is), .fz (rowD cs), .un, .un] = .ok (.own (.lst (is.map fun i => D.bl (memI i cs)))) [.fz (rowD r), .fz (rowD is), .fz (rowD cs), .un, .un] := by
  have hi : ∀ i, fIn false (.int i) (.tup (intD cs)) = some (.val (.bl (memI i cs))) := fun i => by
    unfold fIn
    dsimp only
    rw [intsOf_intD]
    rfl
  have := eLc_map (mi := mIter (fO (eRd 1))) (vs := [3]) (f := gNm 3) (t := mYes) (e := fO (eOp (fIn false) (oSl 3) (oSl 2))) (γ := [.fz (rowD r), .fz (rowD is), .fz (rowD cs), .un, .un])
    D.int (fun i => [.fz (rowD r), .fz (rowD is), .fz (rowD cs), .fz (.int i), .un]) (fun _ => true) (fun i => D.bl (memI i cs)) is
    (by simp only [mIter, fnB, sSeq, sNx, sIf, sRet, sRetN, sSet, sSetIx, sExpr, Out.toS, Out.bind, Out.bindN, eOp, eCall, aCons, aNil, look, looks, slD, fO, eRd, eMv, oSl, eC, ofB, BR.out, nxO, stG, R.sl, Sl.isIo, eAnd, eOr, eNot, bAnd, bOr, bNot, toT, eTup, eLst, dsOf, fI, fIc, Sl.lst, Sl.putL, ioOut, List.replicate, List.cons_append, List.nil_append, List.getElem?_cons_zero, List.getElem?_cons_succ, List.set_cons_zero, List.set_cons_succ, eCallN, mkArgs, mkArg, mkSl, disA, slIn, putArgs, reSl, eChain, eIf, eNeg, intD_map]) rfl (fun _ _ => rfl) (fun _ _ => rfl) (fun d hd _ => by simp only [fnB, sSeq, sNx, sIf, sRet, sRetN, sSet, sSetIx, sExpr, Out.toS, Out.bind, Out.bindN, eOp, eCall, aCons, aNil, look, looks, slD, fO, eRd, eMv, oSl, eC, ofB, BR.out, nxO, stG, R.sl, Sl.isIo, eAnd, eOr, eNot, bAnd, bOr, bNot, toT, eTup, eLst, dsOf, fI, fIc, Sl.lst, Sl.putL, ioOut, List.replicate, List.cons_append, List.nil_append, List.getElem?_cons_zero, List.getElem?_cons_succ, List.set_cons_zero, List.set_cons_succ, eCallN, mkArgs, mkArg, mkSl, disA, slIn, putArgs, reSl, eChain, eIf, eNeg, hi]) (fun _ _ => rfl) (by omega)
  rw [filter_yes] at this
  exact this
abbrev cmpA : Gam → Out R := eLc (mZip (aCons (fO (eRd 1)) (aCons (fO (eSl (oSl 1) (pSome (fO (eC (.int 1)))) pNone)) aNil))) [3, 4] (gTp 2 (gsCons (gNm 3) (gsCons (gNm 4) gsNil))) mYes (fO (eOp fLt (oSl 3) (oSl 4)))
def asc (is : List Int) : Bool := (is.zip is.tail).all fun p => decide (p.1 < p.2)
theorem eSl_1 (ds : List D) (a : Sl) (rest : Gam) : eSl (oSl 1) (pSome (fO (eC (.int 1)))) pNone (a :: .fz (.tup ds) :: rest) = .ok (.fz (.tup ds.tail)) (a :: .fz (.tup ds) :: rest) := by
  have := sl1 ds (a :: .fz (.tup ds) :: rest)
  rw [← this]
  rfl
theorem cmpA_ok (is : List Int) (hl : is.length ≤ 1000) : cmpA [.fz (rowD r), .fz (rowD is), .fz (rowD cs), .un, .un] = .ok (.own (.lst ((is.zip is.tail).map fun p => D.bl (decide (p.1 < p.2))))) [.fz (rowD r), .fz (rowD is), .fz (rowD cs), .un, .un] := by
  have := eLc_map (mi := mZip (aCons (fO (eRd 1)) (aCons (fO (eSl (oSl 1) (pSome (fO (eC (.int 1)))) pNone)) aNil))) (vs := [3, 4]) (f := gTp 2 (gsCons (gNm 3) (gsCons (gNm 4) gsNil))) (t := mYes) (e := fO (eOp fLt (oSl 3) (oSl 4))) (γ := [.fz (rowD r), .fz (rowD is), .fz (rowD cs), .un, .un])
    (fun p : Int × Int => D.tup [.int p.1, .int p.2]) (fun p => [.fz (rowD r), .fz (rowD is), .fz (rowD cs), .fz (.int p.1), .fz (.int p.2)]) (fun _ => true) (fun p => D.bl (decide (p.1 < p.2))) (is.zip is.tail)
    (by simp only [mZip, fnB, sSeq, sNx, sIf, sRet, sRetN, sSet, sSetIx, sExpr, Out.toS, Out.bind, Out.bindN, eOp, eCall, aCons, aNil, look, looks, slD, fO, eRd, eMv, oSl, eC, ofB, BR.out, nxO, stG, R.sl, Sl.isIo, eAnd, eOr, eNot, bAnd, bOr, bNot, toT, eTup, eLst, dsOf, fI, fIc, Sl.lst, Sl.putL, ioOut, List.replicate, List.cons_append, List.nil_append, List.getElem?_cons_zero, List.getElem?_cons_succ, List.set_cons_zero, List.set_cons_succ, eCallN, mkArgs, mkArg, mkSl, disA, slIn, putArgs, reSl, eChain, eIf, eNeg, eSl_1, intD_tail, zipD_int]) rfl (fun _ _ => rfl) (fun _ _ => rfl) (fun d hd _ => by simp only [fnB, sSeq, sNx, sIf, sRet, sRetN, sSet, sSetIx, sExpr, Out.toS, Out.bind, Out.bindN, eOp, eCall, aCons, aNil, look, looks, slD, fO, eRd, eMv, oSl, eC, ofB, BR.out, nxO, stG, R.sl, Sl.isIo, eAnd, eOr, eNot, bAnd, bOr, bNot, toT, eTup, eLst, dsOf, fI, fIc, Sl.lst, Sl.putL, ioOut, List.replicate, List.cons_append, List.nil_append, List.getElem?_cons_zero, List.getElem?_cons_succ, List.set_cons_zero, List.set_cons_succ, eCallN, mkArgs, mkArg, mkSl, disA, slIn, putArgs, reSl, eChain, eIf, eNeg, fLt]) (fun _ _ => rfl) (by
      have := List.length_zip (l₁ := is) (l₂ := is.tail)
      omega)
  rw [filter_yes] at this
  exact this
theorem seq_nx {a b : Gam → OutS} {γ γ1 : Gam} (h : a γ = .nx γ1) : sSeq a b γ = b γ1 := by unfold sSeq; rw [h]
theorem seq_rt {a b : Gam → OutS} {γ γ1 : Gam} {r : R} (h : a γ = .rt r γ1) : sSeq a b γ = .rt r γ1 := by unfold sSeq; rw [h]
theorem if_t {c : Gam → Out Bool} {a b : Gam → OutS} {γ γ1 : Gam} (h : c γ = .ok true γ1) : sIf c a b γ = a γ1 := by unfold sIf; rw [h]; rfl
theorem if_f {c : Gam → Out Bool} {a b : Gam → OutS} {γ γ1 : Gam} (h : c γ = .ok false γ1) : sIf c a b γ = b γ1 := by unfold sIf; rw [h]; rfl
theorem ret_ok {m : Gam → Out R} {γ γ1 : Gam} {r : R} (h : m γ = .ok r γ1) : sRet m γ = .rt r γ1 := by unfold sRet; rw [h]; rfl
theorem set_ok {i : Nat} {m : Gam → Out R} {γ γ1 γ2 : Gam} {r : R} (h : m γ = .ok r γ1) (h2 : stG i r.sl γ1 = some γ2) : sSet i m γ = .nx γ2 := by unfold sSet; rw [h]; show nxO (stG i r.sl γ1) = _; rw [h2]; rfl
theorem ex_ok {m : Gam → Out R} {γ γ1 : Gam} {r : R} (h : m γ = .ok r γ1) : sExpr m γ = .nx γ1 := by unfold sExpr; rw [h]; rfl
theorem fnB_rt {m : Nat} {b : Gam → OutS} {as γ : Gam} {r : R} (h : b (as ++ List.replicate m .un) = .rt r γ) : fnB m b as = .ok r (ioOut as γ) := by unfold fnB; rw [h]
theorem fnB_nx {m : Nat} {b : Gam → OutS} {as γ : Gam} (h : b (as ++ List.replicate m .un) = .nx γ) : fnB m b as = .ok (.fz .non) (ioOut as γ) := by unfold fnB; rw [h]
theorem callN_1 {F : Gam → Out R} {m1 : Gam → Out Ar} {γ : Gam} {d1 : D} {x : R} (h1 : m1 γ = .ok (.d d1) γ) (h : F [.fz d1] = .ok x [.fz d1]) : eCallN 1 F (aCons m1 aNil) γ = .ok x γ := by
  simp only [eCallN, aCons, aNil, Out.bind, h1, disA, mkArgs, mkArg, Nat.beq, List.length_cons, List.length_nil, Bool.and_self, h, putArgs]
theorem callN_2 {F : Gam → Out R} {m1 m2 : Gam → Out Ar} {γ : Gam} {d1 d2 : D} {x : R} (h1 : m1 γ = .ok (.d d1) γ) (h2 : m2 γ = .ok (.d d2) γ) (h : F [.fz d1, .fz d2] = .ok x [.fz d1, .fz d2]) : eCallN 2 F (aCons m1 (aCons m2 aNil)) γ = .ok x γ := by
  simp only [eCallN, aCons, aNil, Out.bind, h1, h2, disA, mkArgs, mkArg, Nat.beq, List.length_cons, List.length_nil, Bool.and_self, h, putArgs]
theorem callN_3 {F : Gam → Out R} {m1 m2 m3 : Gam → Out Ar} {γ : Gam} {d1 d2 d3 : D} {x : R} (h1 : m1 γ = .ok (.d d1) γ) (h2 : m2 γ = .ok (.d d2) γ) (h3 : m3 γ = .ok (.d d3) γ) (h : F [.fz d1, .fz d2, .fz d3] = .ok x [.fz d1, .fz d2, .fz d3]) : eCallN 3 F (aCons m1 (aCons m2 (aCons m3 aNil))) γ = .ok x γ := by
  simp only [eCallN, aCons, aNil, Out.bind, h1, h2, h3, disA, mkArgs, mkArg, Nat.beq, List.length_cons, List.length_nil, Bool.and_self, h, putArgs]
theorem all_ok {cw : Gam → Out R} {γ : Gam} {α : Type} {g : α → Bool} {xs : List α} (h : cw γ = .ok (.own (.lst (xs.map fun x => D.bl (g x)))) γ) : eCall bAll (aCons (fO cw) aNil) γ = .ok (.fz (.bl (xs.all g))) γ := by
  simp only [fnB, sSeq, sNx, sIf, sRet, sRetN, sSet, sSetIx, sExpr, Out.toS, Out.bind, Out.bindN, eOp, eCall, aCons, aNil, look, looks, slD, fO, eRd, eMv, oSl, eC, ofB, BR.out, nxO, stG, R.sl, Sl.isIo, eAnd, eOr, eNot, bAnd, bOr, bNot, toT, eTup, eLst, dsOf, fI, fIc, Sl.lst, Sl.putL, ioOut, List.replicate, List.cons_append, List.nil_append, List.getElem?_cons_zero, List.getElem?_cons_succ, List.set_cons_zero, List.set_cons_succ, eCallN, mkArgs, mkArg, mkSl, disA, slIn, putArgs, reSl, eChain, eIf, eNeg, h, bAll_map]
def marksB (r cs : List Int) : D → Bool
  | .tup ds => ds.all (wi 1 ((r.length : Int) - 1)) && (match intsOf ds with
      | some is => is.all (fun i => memI i cs) && asc is
      | none => false)
  | _ => false
theorem wi_wh {a b : Int} {ds : List D} (h : ds.all (wi a b) = true) : ds.all wh = true := by
  refine List.all_eq_true.mpr fun d hd => ?_
  have := List.all_eq_true.mp h d hd
  cases d <;> first | rfl | (cases this; done)
theorem marks_in (hR : B_rises_in [.fz (rowD r)] = .ok (.fz (rowD cs)) [.fz (rowD r)]) (hv : okV v = true) : B_are_marks_in [.fz (rowD r), .fz v] = .ok (.fz (.bl (marksB r cs v))) [.fz (rowD r), .fz v] := by
  obtain ⟨h1, h2⟩ := Bool.and_eq_true_iff.mp hv
  cases ht : isTu v with
  | false =>
    have e1 := isi_tup v h1
    rw [ht] at e1
    have e2 : marksB r cs v = false := by cases v <;> first | rfl | (cases ht; done)
    rw [e2]
    simp only [B_are_marks_in, s_are_marks_in, fnB, sSeq, sNx, sIf, sRet, sRetN, sSet, sSetIx, sExpr, Out.toS, Out.bind, Out.bindN, eOp, eCall, aCons, aNil, look, looks, slD, fO, eRd, eMv, oSl, eC, ofB, BR.out, nxO, stG, R.sl, Sl.isIo, eAnd, eOr, eNot, bAnd, bOr, bNot, toT, eTup, eLst, dsOf, fI, fIc, Sl.lst, Sl.putL, ioOut, List.replicate, List.cons_append, List.nil_append, List.getElem?_cons_zero, List.getElem?_cons_succ, List.set_cons_zero, List.set_cons_succ, eCallN, mkArgs, mkArg, mkSl, disA, slIn, putArgs, reSl, eChain, eIf, eNeg, e1, Bool.not_false, if_true]
  | true =>
    obtain ⟨ds, rfl⟩ : ∃ ds, v = .tup ds := by cases v <;> first | exact ⟨_, rfl⟩ | (cases ht; done)
    obtain ⟨h3, h4⟩ := Bool.and_eq_true_iff.mp h2
    have e1 := isi_tup (.tup ds) h1
    rw [ht] at e1
    have c1 := cmpW_ok (r := r) ds h3 (Nat.le_of_ble_eq_true h4)
    unfold cmpW at c1
    have b1 := bAll_map (wi 1 ((r.length : Int) - 1)) ds
    cases hw : ds.all (wi 1 ((r.length : Int) - 1)) with
    | false =>
      rw [hw] at b1
      unfold B_are_marks_in s_are_marks_in
      generalize hcw : eLc (mIter (fO (eRd 1))) [3] (gNm 3) mYes (fO (eCallN 3 F_is_within (aCons (fO (eRd 3)) (aCons (fO (eC (.int 1))) (aCons (fO (eOp fSub (fO (eCall bLen (aCons (oSl 0) aNil))) (fO (eC (.int 1))))) aNil))))) = cw at c1 ⊢
      generalize hcm : eLc (mIter (fO (eRd 1))) [3] (gNm 3) mYes (fO (eOp (fIn false) (oSl 3) (oSl 2))) = cm at ⊢
      generalize hca : eLc (mZip (aCons (fO (eRd 1)) (aCons (fO (eSl (oSl 1) (pSome (fO (eC (.int 1)))) pNone)) aNil))) [3, 4] (gTp 2 (gsCons (gNm 3) (gsCons (gNm 4) gsNil))) mYes (fO (eOp fLt (oSl 3) (oSl 4))) = ca at ⊢
      clear hcw hcm hca
      simp only [marksB, hw, fnB, sSeq, sNx, sIf, sRet, sRetN, sSet, sSetIx, sExpr, Out.toS, Out.bind, Out.bindN, eOp, eCall, aCons, aNil, look, looks, slD, fO, eRd, eMv, oSl, eC, ofB, BR.out, nxO, stG, R.sl, Sl.isIo, eAnd, eOr, eNot, bAnd, bOr, bNot, toT, eTup, eLst, dsOf, fI, fIc, Sl.lst, Sl.putL, ioOut, List.replicate, List.cons_append, List.nil_append, List.getElem?_cons_zero, List.getElem?_cons_succ, List.set_cons_zero, List.set_cons_succ, eCallN, mkArgs, mkArg, mkSl, disA, slIn, putArgs, reSl, eChain, eIf, eNeg, e1, c1, b1, Bool.not_false, Bool.not_true, if_true, Bool.false_eq_true, if_false, Bool.false_and]
    | true =>
      rw [hw] at b1
      obtain ⟨is, rfl⟩ := ints_of_wh ds (wi_wh hw)
      have hl : is.length ≤ 1000 := by have := Nat.le_of_ble_eq_true h4; rw [intD_len] at this; exact this
      have c2 := cmpM_ok (r := r) (cs := cs) is hl
      have c3 := cmpA_ok (r := r) (cs := cs) is hl
      unfold cmpM at c2
      unfold cmpA at c3
      have b2 := bAll_map (fun i => memI i cs) is
      have b3 := bAll_map (fun p : Int × Int => decide (p.1 < p.2)) (is.zip is.tail)
      unfold B_are_marks_in s_are_marks_in
      generalize hcw : eLc (mIter (fO (eRd 1))) [3] (gNm 3) mYes (fO (eCallN 3 F_is_within (aCons (fO (eRd 3)) (aCons (fO (eC (.int 1))) (aCons (fO (eOp fSub (fO (eCall bLen (aCons (oSl 0) aNil))) (fO (eC (.int 1))))) aNil))))) = cw at c1 ⊢
      generalize hcm : eLc (mIter (fO (eRd 1))) [3] (gNm 3) mYes (fO (eOp (fIn false) (oSl 3) (oSl 2))) = cm at c2 ⊢
      generalize hca : eLc (mZip (aCons (fO (eRd 1)) (aCons (fO (eSl (oSl 1) (pSome (fO (eC (.int 1)))) pNone)) aNil))) [3, 4] (gTp 2 (gsCons (gNm 3) (gsCons (gNm 4) gsNil))) mYes (fO (eOp fLt (oSl 3) (oSl 4))) = ca at c3 ⊢
      clear hcw hcm hca
      have g1 : (bOr (bNot (toT (eCall bIsi (aCons (oSl 1) (aCons (fO (eC (.ty "tuple"))) aNil))))) (bNot (toT (eCall bAll (aCons (fO cw) aNil))))) [.fz (rowD r), .fz (rowD is), .un, .un, .un] = .ok false [.fz (rowD r), .fz (rowD is), .un, .un, .un] := by
        have q := all_ok c1
        rw [hw] at q
        generalize eCall bAll (aCons (fO cw) aNil) = ca at q ⊢
        simp only [fnB, sSeq, sNx, sIf, sRet, sRetN, sSet, sSetIx, sExpr, Out.toS, Out.bind, Out.bindN, eOp, eCall, aCons, aNil, look, looks, slD, fO, eRd, eMv, oSl, eC, ofB, BR.out, nxO, stG, R.sl, Sl.isIo, eAnd, eOr, eNot, bAnd, bOr, bNot, toT, eTup, eLst, dsOf, fI, fIc, Sl.lst, Sl.putL, ioOut, List.replicate, List.cons_append, List.nil_append, List.getElem?_cons_zero, List.getElem?_cons_succ, List.set_cons_zero, List.set_cons_succ, eCallN, mkArgs, mkArg, mkSl, disA, slIn, putArgs, reSl, eChain, eIf, eNeg, e1, q, Bool.not_true]
      have g2 : (eCallN 1 F_rises_in (aCons (fO (eRd 0)) aNil)) [.fz (rowD r), .fz (rowD is), .un, .un, .un] = .ok (.fz (rowD cs)) [.fz (rowD r), .fz (rowD is), .un, .un, .un] := by
        exact callN_1 rfl hR
      have q2 := all_ok c2
      have q3 := all_ok c3
      have e5 : marksB r cs (.tup (intD is)) = (is.all (fun i => memI i cs) && asc is) := by
        unfold marksB
        dsimp only
        rw [hw, intsOf_intD, Bool.true_and]
      rw [e5]
      generalize eCallN 1 F_rises_in (aCons (fO (eRd 0)) aNil) = fr at g2 ⊢
      generalize (bOr (bNot (toT (eCall bIsi (aCons (oSl 1) (aCons (fO (eC (.ty "tuple"))) aNil))))) (bNot (toT (eCall bAll (aCons (fO cw) aNil))))) = bo at g1 ⊢
      generalize eCall bAll (aCons (fO cm) aNil) = am at q2 ⊢
      generalize eCall bAll (aCons (fO ca) aNil) = aa at q3 ⊢
      have st2 : stG 2 (R.sl (.fz (rowD cs))) [.fz (rowD r), .fz (rowD is), .un, .un, .un] = some [.fz (rowD r), .fz (rowD is), .fz (rowD cs), .un, .un] := rfl
      have n1 : ∀ {a : Gam → OutS}, sIf bo a sNx [.fz (rowD r), .fz (rowD is), .un, .un, .un] = .nx [.fz (rowD r), .fz (rowD is), .un, .un, .un] := fun {a} => if_f g1
      have n2 := set_ok g2 st2
      cases hm : is.all (fun i => memI i cs) with
      | false =>
        rw [hm] at q2
        rw [Bool.false_and]
        have q2' : (bNot (toT am)) [.fz (rowD r), .fz (rowD is), .fz (rowD cs), .un, .un] = .ok true [.fz (rowD r), .fz (rowD is), .fz (rowD cs), .un, .un] := by simp only [bNot, toT, Out.bind, q2, Bool.not_false]
        refine fnB_rt (γ := [.fz (rowD r), .fz (rowD is), .fz (rowD cs), .un, .un]) ?_
        show sSeq _ _ [.fz (rowD r), .fz (rowD is), .un, .un, .un] = _
        rw [seq_nx n1, seq_nx n2]
        exact seq_rt ((if_t q2').trans (seq_rt (ret_ok rfl)))
      | true =>
        rw [hm] at q2
        rw [Bool.true_and]
        have q2' : (bNot (toT am)) [.fz (rowD r), .fz (rowD is), .fz (rowD cs), .un, .un] = .ok false [.fz (rowD r), .fz (rowD is), .fz (rowD cs), .un, .un] := by simp only [bNot, toT, Out.bind, q2, Bool.not_true]
        refine fnB_rt (γ := [.fz (rowD r), .fz (rowD is), .fz (rowD cs), .un, .un]) ?_
        show sSeq _ _ [.fz (rowD r), .fz (rowD is), .un, .un, .un] = _
        have n3 : ∀ {a : Gam → OutS}, sIf (bNot (toT am)) a sNx [.fz (rowD r), .fz (rowD is), .fz (rowD cs), .un, .un] = .nx [.fz (rowD r), .fz (rowD is), .fz (rowD cs), .un, .un] := fun {a} => if_f q2'
        rw [seq_nx n1, seq_nx n2, seq_nx n3]
        exact seq_rt (ret_ok q3)
end
end T

-- text V6
set_option Elab.async false
set_option linter.all false
set_option maxRecDepth 100000
set_option maxHeartbeats 4000000
namespace T
open PySem L2
theorem ones {α : Type} (xs : List α) : (xs.map fun _ => D.int 1) = intD (xs.map fun _ => 1) := intD_of (fun _ => 1) xs
theorem map_nil {α : Type} (xs : List α) : decide ((xs.map fun _ => (1 : Int)) = []) = xs.isEmpty := by cases xs <;> simp
theorem neNil {cw : Gam → Out R} {γ : Gam} {α : Type} {xs : List α} (h : cw γ = .ok (.own (.lst (xs.map fun _ => D.int 1))) γ) : toT (eOp (fEq true) (fO cw) (fO (eLst aNil))) γ = .ok (!xs.isEmpty) γ := by
  have e := fEq_nil true (xs.map fun _ => (1 : Int))
  rw [← ones, map_nil] at e
  have f0 : fitN (([] : List D).length) = true := by decide
  simp only [fnB, sSeq, sNx, sIf, sRet, sRetN, sSet, sSetIx, sExpr, Out.toS, Out.bind, Out.bindN, eOp, eCall, aCons, aNil, look, looks, slD, fO, eRd, eMv, oSl, eC, ofB, BR.out, nxO, stG, R.sl, Sl.isIo, eAnd, eOr, eNot, bAnd, bOr, bNot, toT, eTup, eLst, dsOf, fI, fIc, Sl.lst, Sl.putL, ioOut, List.replicate, List.cons_append, List.nil_append, List.getElem?_cons_zero, List.getElem?_cons_succ, List.set_cons_zero, List.set_cons_succ, eCallN, mkArgs, mkArg, mkSl, disA, slIn, putArgs, reSl, eChain, eIf, eNeg, h, e, f0, if_true]
theorem eqNil {cw : Gam → Out R} {γ : Gam} {α : Type} {xs : List α} (h : cw γ = .ok (.own (.lst (xs.map fun _ => D.int 1))) γ) : eOp (fEq false) (fO cw) (fO (eLst aNil)) γ = .ok (.fz (.bl xs.isEmpty)) γ := by
  have e := fEq_nil false (xs.map fun _ => (1 : Int))
  rw [← ones, map_nil] at e
  have f0 : fitN (([] : List D).length) = true := by decide
  simp only [fnB, sSeq, sNx, sIf, sRet, sRetN, sSet, sSetIx, sExpr, Out.toS, Out.bind, Out.bindN, eOp, eCall, aCons, aNil, look, looks, slD, fO, eRd, eMv, oSl, eC, ofB, BR.out, nxO, stG, R.sl, Sl.isIo, eAnd, eOr, eNot, bAnd, bOr, bNot, toT, eTup, eLst, dsOf, fI, fIc, Sl.lst, Sl.putL, ioOut, List.replicate, List.cons_append, List.nil_append, List.getElem?_cons_zero, List.getElem?_cons_succ, List.set_cons_zero, List.set_cons_succ, eCallN, mkArgs, mkArg, mkSl, disA, slIn, putArgs, reSl, eChain, eIf, eNeg, h, e, f0, Bool.false_eq_true, if_false]
section
variable {r cs : List Int} {v : D}
theorem lotW_ok (ds : List D) (h : ds.all okK = true) (hl : ds.length ≤ 1000) : eLc (mIter (fO (eRd 1))) [2] (gNm 2) (bOr (toT (eCall bIsi (aCons (oSl 2) (aCons (fO (eC (.ty "bool"))) aNil)))) (bNot (toT (eCall bIsi (aCons (oSl 2) (aCons (fO (eC (.ty "int"))) aNil)))))) (fO (eC (.int 1))) [.fz (rowD r), .fz (.tup ds), .un, .un]
    = .ok (.own (.lst ((ds.filter fun d => !wh d).map fun _ => D.int 1))) [.fz (rowD r), .fz (.tup ds), .un, .un] := by
  refine eLc_map (γ := [.fz (rowD r), .fz (.tup ds), .un, .un]) id (fun d => [.fz (rowD r), .fz (.tup ds), .fz d, .un]) (fun d => !wh d) (fun _ => D.int 1) ds
    (by simp only [mIter, fnB, sSeq, sNx, sIf, sRet, sRetN, sSet, sSetIx, sExpr, Out.toS, Out.bind, Out.bindN, eOp, eCall, aCons, aNil, look, looks, slD, fO, eRd, eMv, oSl, eC, ofB, BR.out, nxO, stG, R.sl, Sl.isIo, eAnd, eOr, eNot, bAnd, bOr, bNot, toT, eTup, eLst, dsOf, fI, fIc, Sl.lst, Sl.putL, ioOut, List.replicate, List.cons_append, List.nil_append, List.getElem?_cons_zero, List.getElem?_cons_succ, List.set_cons_zero, List.set_cons_succ, eCallN, mkArgs, mkArg, mkSl, disA, slIn, putArgs, reSl, eChain, eIf, eNeg, List.map_id]) rfl (fun _ _ => rfl) (fun d hd => ?_) (fun d hd _ => rfl) (fun _ _ => rfl) (by omega)
  have k := List.all_eq_true.mp h d hd
  have e1 := isi_bool d k
  have e2 := isi_int d k
  cases hb : isBo d with
  | true =>
    have hw : wh d = false := by cases d <;> first | rfl | (cases hb; done)
    rw [hb] at e1
    simp only [fnB, sSeq, sNx, sIf, sRet, sRetN, sSet, sSetIx, sExpr, Out.toS, Out.bind, Out.bindN, eOp, eCall, aCons, aNil, look, looks, slD, fO, eRd, eMv, oSl, eC, ofB, BR.out, nxO, stG, R.sl, Sl.isIo, eAnd, eOr, eNot, bAnd, bOr, bNot, toT, eTup, eLst, dsOf, fI, fIc, Sl.lst, Sl.putL, ioOut, List.replicate, List.cons_append, List.nil_append, List.getElem?_cons_zero, List.getElem?_cons_succ, List.set_cons_zero, List.set_cons_succ, eCallN, mkArgs, mkArg, mkSl, disA, slIn, putArgs, reSl, eChain, eIf, eNeg, e1, hw, Bool.not_false]
  | false =>
    rw [hb] at e1 e2
    rw [Bool.or_false] at e2
    simp only [fnB, sSeq, sNx, sIf, sRet, sRetN, sSet, sSetIx, sExpr, Out.toS, Out.bind, Out.bindN, eOp, eCall, aCons, aNil, look, looks, slD, fO, eRd, eMv, oSl, eC, ofB, BR.out, nxO, stG, R.sl, Sl.isIo, eAnd, eOr, eNot, bAnd, bOr, bNot, toT, eTup, eLst, dsOf, fI, fIc, Sl.lst, Sl.putL, ioOut, List.replicate, List.cons_append, List.nil_append, List.getElem?_cons_zero, List.getElem?_cons_succ, List.set_cons_zero, List.set_cons_succ, eCallN, mkArgs, mkArg, mkSl, disA, slIn, putArgs, reSl, eChain, eIf, eNeg, e1, e2]
theorem lotM_ok {F : Gam → Out R} (hC : F [.fz (rowD r)] = .ok (.own (.lst (intD cs))) [.fz (rowD r)]) (is : List Int) (hl : is.length ≤ 1000) : eLc (mIter (fO (eRd 1))) [2] (gNm 2) (toT (eOp (fIn true) (oSl 2) (fO (eCallN 1 F (aCons (fO (eRd 0)) aNil))))) (fO (eC (.int 1))) [.fz (rowD r), .fz (rowD is), .un, .un]
    = .ok (.own (.lst ((is.filter fun i => !memI i cs).map fun _ => D.int 1))) [.fz (rowD r), .fz (rowD is), .un, .un] := by
  refine eLc_map (γ := [.fz (rowD r), .fz (rowD is), .un, .un]) D.int (fun i => [.fz (rowD r), .fz (rowD is), .fz (.int i), .un]) (fun i => !memI i cs) (fun _ => D.int 1) is
    (by simp only [mIter, fnB, sSeq, sNx, sIf, sRet, sRetN, sSet, sSetIx, sExpr, Out.toS, Out.bind, Out.bindN, eOp, eCall, aCons, aNil, look, looks, slD, fO, eRd, eMv, oSl, eC, ofB, BR.out, nxO, stG, R.sl, Sl.isIo, eAnd, eOr, eNot, bAnd, bOr, bNot, toT, eTup, eLst, dsOf, fI, fIc, Sl.lst, Sl.putL, ioOut, List.replicate, List.cons_append, List.nil_append, List.getElem?_cons_zero, List.getElem?_cons_succ, List.set_cons_zero, List.set_cons_succ, eCallN, mkArgs, mkArg, mkSl, disA, slIn, putArgs, reSl, eChain, eIf, eNeg, intD_map]) rfl (fun _ _ => rfl) (fun i hi => ?_) (fun d hd _ => rfl) (fun _ _ => rfl) (by omega)
  have hn : fIn true (.int i) (.lst (intD cs)) = some (.val (.bl (!memI i cs))) := by
    unfold fIn
    dsimp only
    rw [intsOf_intD]
    rfl
  have c := callN_1 (F := F) (m1 := fO (eRd 0)) (γ := [.fz (rowD r), .fz (rowD is), .fz (.int i), .un]) rfl hC
  generalize eCallN 1 F (aCons (fO (eRd 0)) aNil) = cl at c ⊢
  simp only [fnB, sSeq, sNx, sIf, sRet, sRetN, sSet, sSetIx, sExpr, Out.toS, Out.bind, Out.bindN, eOp, eCall, aCons, aNil, look, looks, slD, fO, eRd, eMv, oSl, eC, ofB, BR.out, nxO, stG, R.sl, Sl.isIo, eAnd, eOr, eNot, bAnd, bOr, bNot, toT, eTup, eLst, dsOf, fI, fIc, Sl.lst, Sl.putL, ioOut, List.replicate, List.cons_append, List.nil_append, List.getElem?_cons_zero, List.getElem?_cons_succ, List.set_cons_zero, List.set_cons_succ, eCallN, mkArgs, mkArg, mkSl, disA, slIn, putArgs, reSl, eChain, eIf, eNeg, c, hn]
theorem lotA_ok (is : List Int) (hl : is.length ≤ 1000) : eLc (mZip (aCons (fO (eRd 1)) (aCons (fO (eSl (oSl 1) (pSome (fO (eC (.int 1)))) pNone)) aNil))) [2, 3] (gTp 2 (gsCons (gNm 2) (gsCons (gNm 3) gsNil))) (toT (eOp fGe (oSl 2) (oSl 3))) (fO (eC (.int 1))) [.fz (rowD r), .fz (rowD is), .un, .un]
    = .ok (.own (.lst (((is.zip is.tail).filter fun p => decide (p.2 ≤ p.1)).map fun _ => D.int 1))) [.fz (rowD r), .fz (rowD is), .un, .un] := by
  refine eLc_map (γ := [.fz (rowD r), .fz (rowD is), .un, .un]) (fun p : Int × Int => D.tup [.int p.1, .int p.2]) (fun p => [.fz (rowD r), .fz (rowD is), .fz (.int p.1), .fz (.int p.2)]) (fun p => decide (p.2 ≤ p.1)) (fun _ => D.int 1) (is.zip is.tail)
    (by simp only [mZip, fnB, sSeq, sNx, sIf, sRet, sRetN, sSet, sSetIx, sExpr, Out.toS, Out.bind, Out.bindN, eOp, eCall, aCons, aNil, look, looks, slD, fO, eRd, eMv, oSl, eC, ofB, BR.out, nxO, stG, R.sl, Sl.isIo, eAnd, eOr, eNot, bAnd, bOr, bNot, toT, eTup, eLst, dsOf, fI, fIc, Sl.lst, Sl.putL, ioOut, List.replicate, List.cons_append, List.nil_append, List.getElem?_cons_zero, List.getElem?_cons_succ, List.set_cons_zero, List.set_cons_succ, eCallN, mkArgs, mkArg, mkSl, disA, slIn, putArgs, reSl, eChain, eIf, eNeg, eSl_1, intD_tail, zipD_int]) rfl (fun _ _ => rfl) (fun _ _ => rfl) (fun d hd _ => rfl) (fun _ _ => rfl) (by
      have := List.length_zip (l₁ := is) (l₂ := is.tail)
      omega)
def lotB (cs : List Int) : D → Bool
  | .tup ds => (ds.filter fun d => !wh d).isEmpty && (match intsOf ds with
      | some is => (is.filter fun i => !memI i cs).isEmpty && ((is.zip is.tail).filter fun p => decide (p.2 ≤ p.1)).isEmpty
      | none => false)
  | _ => false
theorem is_lot_ok (hC : F_law_climbs [.fz (rowD r)] = .ok (.own (.lst (intD cs))) [.fz (rowD r)]) (hv : okV v = true) : B_law_is_lot [.fz (rowD r), .fz v] = .ok (.fz (.bl (lotB cs v))) [.fz (rowD r), .fz v] := by
  obtain ⟨h1, h2⟩ := Bool.and_eq_true_iff.mp hv
  have e1 := isi_tup v h1
  cases ht : isTu v with
  | false =>
    rw [ht] at e1
    have e2 : lotB cs v = false := by cases v <;> first | rfl | (cases ht; done)
    rw [e2]
    have g1 : ∀ b, (bOr (bNot (toT (eCall bIsi (aCons (oSl 1) (aCons (fO (eC (.ty "tuple"))) aNil))))) b) [.fz (rowD r), .fz v, .un, .un] = .ok true [.fz (rowD r), .fz v, .un, .un] := fun b => by simp only [fnB, sSeq, sNx, sIf, sRet, sRetN, sSet, sSetIx, sExpr, Out.toS, Out.bind, Out.bindN, eOp, eCall, aCons, aNil, look, looks, slD, fO, eRd, eMv, oSl, eC, ofB, BR.out, nxO, stG, R.sl, Sl.isIo, eAnd, eOr, eNot, bAnd, bOr, bNot, toT, eTup, eLst, dsOf, fI, fIc, Sl.lst, Sl.putL, ioOut, List.replicate, List.cons_append, List.nil_append, List.getElem?_cons_zero, List.getElem?_cons_succ, List.set_cons_zero, List.set_cons_succ, eCallN, mkArgs, mkArg, mkSl, disA, slIn, putArgs, reSl, eChain, eIf, eNeg, e1, Bool.not_false]
    unfold B_law_is_lot s_law_is_lot
    refine fnB_rt (γ := [.fz (rowD r), .fz v, .un, .un]) ?_
    show sSeq _ _ [.fz (rowD r), .fz v, .un, .un] = _
    exact seq_rt ((if_t (g1 _)).trans (seq_rt (ret_ok rfl)))
  | true =>
    obtain ⟨ds, rfl⟩ : ∃ ds, v = .tup ds := by cases v <;> first | exact ⟨_, rfl⟩ | (cases ht; done)
    rw [ht] at e1
    obtain ⟨h3, h4⟩ := Bool.and_eq_true_iff.mp h2
    have q1 := neNil (lotW_ok (r := r) ds h3 (Nat.le_of_ble_eq_true h4))
    have g1 : ∀ b x, b [.fz (rowD r), .fz (.tup ds), .un, .un] = .ok x [.fz (rowD r), .fz (.tup ds), .un, .un] → (bOr (bNot (toT (eCall bIsi (aCons (oSl 1) (aCons (fO (eC (.ty "tuple"))) aNil))))) b) [.fz (rowD r), .fz (.tup ds), .un, .un] = .ok x [.fz (rowD r), .fz (.tup ds), .un, .un] := fun b x hb => by simp only [fnB, sSeq, sNx, sIf, sRet, sRetN, sSet, sSetIx, sExpr, Out.toS, Out.bind, Out.bindN, eOp, eCall, aCons, aNil, look, looks, slD, fO, eRd, eMv, oSl, eC, ofB, BR.out, nxO, stG, R.sl, Sl.isIo, eAnd, eOr, eNot, bAnd, bOr, bNot, toT, eTup, eLst, dsOf, fI, fIc, Sl.lst, Sl.putL, ioOut, List.replicate, List.cons_append, List.nil_append, List.getElem?_cons_zero, List.getElem?_cons_succ, List.set_cons_zero, List.set_cons_succ, eCallN, mkArgs, mkArg, mkSl, disA, slIn, putArgs, reSl, eChain, eIf, eNeg, e1, hb, Bool.not_true]
    have g2 := g1 _ _ q1
    unfold B_law_is_lot s_law_is_lot
    refine fnB_rt (γ := [.fz (rowD r), .fz (.tup ds), .un, .un]) ?_
    show sSeq _ _ [.fz (rowD r), .fz (.tup ds), .un, .un] = _
    cases hw : (ds.filter fun d => !wh d).isEmpty with
    | false =>
      rw [hw, Bool.not_false] at g2
      have e2 : lotB cs (.tup ds) = false := by
        unfold lotB
        dsimp only
        rw [hw, Bool.false_and]
      rw [e2]
      exact seq_rt ((if_t g2).trans (seq_rt (ret_ok rfl)))
    | true =>
      rw [hw, Bool.not_true] at g2
      have hall : ds.all wh = true := by
        have e : ds.filter (fun d => !wh d) = [] := List.isEmpty_iff.mp hw
        refine List.all_eq_true.mpr fun d hd => ?_
        cases hwd : wh d with
        | true => rfl
        | false =>
          have : d ∈ ds.filter (fun d => !wh d) := List.mem_filter.mpr ⟨hd, by rw [hwd]; rfl⟩
          rw [e] at this
          cases this
      obtain ⟨is, rfl⟩ := ints_of_wh ds hall
      have hl : is.length ≤ 1000 := by have := Nat.le_of_ble_eq_true h4; rw [intD_len] at this; exact this
      have q2 := neNil (lotM_ok hC is hl)
      have q3 := eqNil (lotA_ok (r := r) is hl)
      have e2 : lotB cs (.tup (intD is)) = ((is.filter fun i => !memI i cs).isEmpty && ((is.zip is.tail).filter fun p => decide (p.2 ≤ p.1)).isEmpty) := by
        unfold lotB
        dsimp only
        rw [hw, intsOf_intD, Bool.true_and]
      rw [e2]
      rw [seq_nx (if_f g2 : sIf _ _ sNx _ = OutS.nx _)]
      cases hm : (is.filter fun i => !memI i cs).isEmpty with
      | false =>
        rw [hm, Bool.not_false] at q2
        rw [Bool.false_and]
        exact seq_rt ((if_t q2).trans (seq_rt (ret_ok rfl)))
      | true =>
        rw [hm, Bool.not_true] at q2
        rw [Bool.true_and]
        rw [seq_nx (if_f q2 : sIf _ _ sNx _ = OutS.nx _)]
        exact seq_rt (ret_ok q3)
/-- the judge and the law's own look agree -/
theorem marks_lot (hc : ∀ c ∈ cs, 1 ≤ c ∧ c ≤ (r.length : Int) - 1) (v : D) : marksB r cs v = lotB cs v := by
  cases v <;> first | rfl | skip
  rename_i ds
  unfold marksB lotB
  dsimp only
  cases hw : (ds.filter fun d => !wh d).isEmpty with
  | false =>
    have hn : ds.all (wi 1 ((r.length : Int) - 1)) = false := by
      cases h : ds.all (wi 1 ((r.length : Int) - 1)) with
      | false => rfl
      | true =>
        have ha := wi_wh h
        have : ds.filter (fun d => !wh d) = [] := List.filter_eq_nil_iff.mpr fun d hd => by rw [List.all_eq_true.mp ha d hd]; simp
        rw [this] at hw
        cases hw
    rw [hn, Bool.false_and, Bool.false_and]
  | true =>
    have hall : ds.all wh = true := by
      have e : ds.filter (fun d => !wh d) = [] := List.isEmpty_iff.mp hw
      refine List.all_eq_true.mpr fun d hd => ?_
      cases hwd : wh d with
      | true => rfl
      | false =>
        have : d ∈ ds.filter (fun d => !wh d) := List.mem_filter.mpr ⟨hd, by rw [hwd]; rfl⟩
        rw [e] at this
        cases this
    obtain ⟨is, rfl⟩ := ints_of_wh ds hall
    rw [intsOf_intD]
    dsimp only
    have m1 : (is.filter fun i => !memI i cs).isEmpty = is.all (fun i => memI i cs) := by
      clear hw hall
      induction is with
      | nil => rfl
      | cons a l ih =>
        cases h : memI a cs with
        | true => rw [List.filter_cons_of_neg (by rw [h]; simp), List.all_cons, h, Bool.true_and]; exact ih
        | false => rw [List.filter_cons_of_pos (by rw [h]; rfl), List.all_cons, h, Bool.false_and]; rfl
    have m2 : ∀ l : List (Int × Int), (l.filter fun p => decide (p.2 ≤ p.1)).isEmpty = l.all (fun p => decide (p.1 < p.2)) := fun l => by
      induction l with
      | nil => rfl
      | cons a l ih =>
        by_cases h : a.1 < a.2
        · rw [List.filter_cons_of_neg (by simp; omega), List.all_cons, decide_eq_true h, Bool.true_and]; exact ih
        · rw [List.filter_cons_of_pos (by simp; omega), List.all_cons, decide_eq_false h, Bool.false_and]; rfl
    rw [m1, m2]
    show _ = (true && (_ && asc is))
    rw [Bool.true_and]
    cases hm : is.all (fun i => memI i cs) with
    | false => rw [Bool.false_and, Bool.and_false]
    | true =>
      have : (intD is).all (wi 1 ((r.length : Int) - 1)) = true := by
        rw [intD_map, List.all_map]
        refine List.all_eq_true.mpr fun i hi => ?_
        obtain ⟨a, b⟩ := hc i (memI_iff.mp (List.all_eq_true.mp hm i hi))
        show (decide (1 ≤ i) && decide (i ≤ (r.length : Int) - 1)) = true
        rw [decide_eq_true a, decide_eq_true b]
        rfl
      rw [this, Bool.true_and]
end
end T

-- text V7
set_option Elab.async false
set_option linter.all false
set_option maxRecDepth 100000
set_option maxHeartbeats 4000000
namespace T
open PySem L2
theorem loopS_map {α S : Type} {f : D → Gam → Option Gam} {b : Gam → OutS} (cst : α → D) (J : S → Gam → Prop) (step : S → α → S) : ∀ (xs : List α) (s : S) (γ : Gam), J s γ → (∀ s x γ, x ∈ xs → J s γ → ∃ γ1 γ2, f (cst x) γ = some γ1 ∧ b γ1 = .nx γ2 ∧ J (step s x) γ2) → ∃ γ', loopS f b (xs.map cst) γ = .nx γ' ∧ J (xs.foldl step s) γ'
  | [], s, γ, h, _ => ⟨γ, rfl, h⟩
  | x :: xs, s, γ, h, hs => by
    obtain ⟨γ1, γ2, e1, e2, h2⟩ := hs s x γ List.mem_cons_self h
    obtain ⟨γ', e, hj⟩ := loopS_map cst J step xs (step s x) γ2 h2 fun s y γ hy => hs s y γ (List.mem_cons_of_mem _ hy)
    refine ⟨γ', ?_, hj⟩
    rw [List.map_cons]
    unfold loopS
    rw [e1]
    simp only [e2, e]
theorem for_ok {α S : Type} {mi : Gam → Out (List D)} {f : D → Gam → Option Gam} {b : Gam → OutS} (cst : α → D) (J : S → Gam → Prop) (step : S → α → S) (xs : List α) (s : S) {γ : Gam} (hm : mi γ = .ok (xs.map cst) γ) (h : J s γ) (hs : ∀ s x γ, x ∈ xs → J s γ → ∃ γ1 γ2, f (cst x) γ = some γ1 ∧ b γ1 = .nx γ2 ∧ J (step s x) γ2) : ∃ γ', sFor mi f b γ = .nx γ' ∧ J (xs.foldl step s) γ' := by
  obtain ⟨γ', e, hj⟩ := loopS_map cst J step xs s γ h hs
  refine ⟨γ', ?_, hj⟩
  unfold sFor
  rw [hm]
  exact e
theorem rgD_map : ∀ (n : Nat) (lo : Int), rgD lo n = (List.range n).map fun k => D.int (lo + (k : Nat))
  | 0, _ => rfl
  | n + 1, lo => by
    rw [List.range_succ_eq_map, List.map_cons, List.map_map]
    show D.int lo :: rgD (lo + 1) n = _
    rw [rgD_map n (lo + 1)]
    have e : lo + ((0 : Nat) : Int) = lo := by omega
    rw [e]
    congr 1
    refine List.map_congr_left fun k _ => ?_
    show D.int (lo + 1 + (k : Int)) = D.int (lo + ((k + 1 : Nat) : Int))
    congr 1
    push_cast
    omega
theorem inRg_of {i : Int} (h0 : -1000 ≤ i) (h1 : i ≤ 1000) : inRg i = true := by
  unfold inRg
  rw [decide_eq_true (Int.le_trans (show (-4611686018427387904 : Int) ≤ -1000 by decide) h0), decide_eq_true (Int.lt_of_le_of_lt h1 (by decide))]
  rfl
theorem rng1_gen {ms : Gam → Out (List Ar)} {γ : Gam} {as : List Ar} {i : Int} (h : ms γ = .ok as γ) (hl : looks γ as = some [.int i]) (hi : inRg i = true) : mRng1 ms γ = .ok (rgD 0 i.toNat) γ := by
  unfold mRng1
  rw [h]
  simp only [Out.bind, hl, hi]
theorem rng1_ok {ms : Gam → Out (List Ar)} {γ : Gam} {as : List Ar} {i : Int} {n : Nat} (h : ms γ = .ok as γ) (hl : looks γ as = some [.int i]) (ei : i = (n : Int)) (hn : n ≤ 1000) : mRng1 ms γ = .ok ((List.range n).map fun k => D.int (0 + (k : Nat))) γ := by
  rw [rng1_gen h hl (inRg_of (by omega) (by omega)), rgD_map]
  have : i.toNat = n := by omega
  rw [this]
theorem rng2_ok {ms : Gam → Out (List Ar)} {γ : Gam} {as : List Ar} {a b : Int} (h : ms γ = .ok as γ) (hl : looks γ as = some [.int a, .int b]) (ha : -1000 ≤ a) (ha2 : a ≤ 1000) (hb : -1000 ≤ b) (hb2 : b ≤ 1000) : mRng2 ms γ = .ok ((List.range (b - a).toNat).map fun k => D.int (a + (k : Nat))) γ := by
  have h1 := inRg_of ha ha2
  have h2 := inRg_of hb hb2
  unfold mRng2
  rw [h]
  simp only [Out.bind, hl, h1, h2, Bool.and_self, rgD_map]
def at0 (r : List Int) (i : Nat) : Int := r.getD i 0
theorem fIx_at {r : List Int} {i : Nat} {x : Int} (hx : x = (i : Int)) (h : i < r.length) : fIx (.tup (intD r)) (.int x) = some (.val (.int (at0 r i))) := by
  refine fIx_tup i hx ?_
  rw [intD_get, List.getElem?_eq_getElem h]
  unfold at0
  rw [List.getD_eq_getElem?_getD, List.getElem?_eq_getElem h]
  rfl
def b2i (b : Bool) : Int := if b = true then 1 else 0
section
variable {r o : List Int}
def cL (r o : List Int) (i j : Nat) : Bool := (decide (at0 r i = at0 r j) && decide (at0 o i < at0 o j)) || (decide (at0 r i = at0 r j + 1) && decide (at0 o j < at0 o i))
theorem law_body (d : Int) (i j : Nat) (hi : i < r.length) (hj : j < r.length) (hlen : o.length = r.length) (xi xj : Int) (ei : xi = (i : Int)) (ej : xj = (j : Int)) (s5 : Sl) (h5 : s5.isIo = false) :
    (sSeq (sSet 5 (eAnd (eOp (fEq false) (fO (eOp fIx (oSl 0) (oSl 3))) (fO (eOp fIx (oSl 0) (oSl 4)))) (eOp fLt (fO (eOp fIx (oSl 1) (oSl 3))) (fO (eOp fIx (oSl 1) (oSl 4)))))) (sSeq (sSet 2 (eOp fAdd (oSl 2) (fO (eCall bInt (aCons (fO (eOr (eRd 5) (eAnd (eOp (fEq false) (fO (eOp fIx (oSl 0) (oSl 3))) (fO (eOp fAdd (fO (eOp fIx (oSl 0) (oSl 4))) (fO (eC (.int 1)))))) (eOp fGt (fO (eOp fIx (oSl 1) (oSl 3))) (fO (eOp fIx (oSl 1) (oSl 4))))))) aNil))))) sNx))
      [.fz (rowD r), .fz (rowD o), .fz (.int d), .fz (.int xi), .fz (.int xj), s5]
    = .nx [.fz (rowD r), .fz (rowD o), .fz (.int (d + b2i (cL r o i j))), .fz (.int xi), .fz (.int xj), .fz (.bl (decide (at0 r i = at0 r j) && decide (at0 o i < at0 o j)))] := by
  have a1 := fIx_at ei hi
  have a2 := fIx_at ej hj
  have a3 := fIx_at (r := o) ei (by omega)
  have a4 := fIx_at (r := o) ej (by omega)
  have q1 := fEq_int false (at0 r i) (at0 r j)
  have q2 := fEq_int false (at0 r i) (at0 r j + 1)
  simp only [Bool.false_eq_true, if_false] at q1 q2
  unfold cL b2i
  have e1 : sSet 5 (eAnd (eOp (fEq false) (fO (eOp fIx (oSl 0) (oSl 3))) (fO (eOp fIx (oSl 0) (oSl 4)))) (eOp fLt (fO (eOp fIx (oSl 1) (oSl 3))) (fO (eOp fIx (oSl 1) (oSl 4))))) [.fz (rowD r), .fz (rowD o), .fz (.int d), .fz (.int xi), .fz (.int xj), s5] = .nx [.fz (rowD r), .fz (rowD o), .fz (.int d), .fz (.int xi), .fz (.int xj), .fz (.bl (decide (at0 r i = at0 r j) && decide (at0 o i < at0 o j)))] := by
    refine set_ok (γ1 := [.fz (rowD r), .fz (rowD o), .fz (.int d), .fz (.int xi), .fz (.int xj), s5]) (r := .fz (.bl (decide (at0 r i = at0 r j) && decide (at0 o i < at0 o j)))) ?_ ?_
    · cases h : decide (at0 r i = at0 r j) <;> rw [h] at q1 <;> simp only [fnB, sSeq, sNx, sIf, sRet, sRetN, sSet, sSetIx, sExpr, Out.toS, Out.bind, Out.bindN, eOp, eCall, aCons, aNil, look, looks, slD, fO, eRd, eMv, oSl, eC, ofB, BR.out, nxO, stG, R.sl, Sl.isIo, eAnd, eOr, eNot, bAnd, bOr, bNot, toT, eTup, eLst, dsOf, fI, fIc, Sl.lst, Sl.putL, ioOut, List.replicate, List.cons_append, List.nil_append, List.getElem?_cons_zero, List.getElem?_cons_succ, List.set_cons_zero, List.set_cons_succ, eCallN, mkArgs, mkArg, mkSl, disA, slIn, putArgs, reSl, eChain, eIf, eNeg, fLt, a1, a2, a3, a4, q1, Bool.true_and, Bool.false_and]
    · show (match s5.isIo with | true => none | false => some _) = _
      rw [h5]
      rfl
  rw [seq_nx e1]
  refine (seq_nx (set_ok (γ1 := [.fz (rowD r), .fz (rowD o), .fz (.int d), .fz (.int xi), .fz (.int xj), .fz (.bl (decide (at0 r i = at0 r j) && decide (at0 o i < at0 o j)))]) (r := .fz (.int (d + (if ((decide (at0 r i = at0 r j) && decide (at0 o i < at0 o j)) || (decide (at0 r i = at0 r j + 1) && decide (at0 o j < at0 o i))) = true then 1 else 0)))) ?_ rfl)).trans rfl
  cases h : (decide (at0 r i = at0 r j) && decide (at0 o i < at0 o j)) with
  | true => simp only [fnB, sSeq, sNx, sIf, sRet, sRetN, sSet, sSetIx, sExpr, Out.toS, Out.bind, Out.bindN, eOp, eCall, aCons, aNil, look, looks, slD, fO, eRd, eMv, oSl, eC, ofB, BR.out, nxO, stG, R.sl, Sl.isIo, eAnd, eOr, eNot, bAnd, bOr, bNot, toT, eTup, eLst, dsOf, fI, fIc, Sl.lst, Sl.putL, ioOut, List.replicate, List.cons_append, List.nil_append, List.getElem?_cons_zero, List.getElem?_cons_succ, List.set_cons_zero, List.set_cons_succ, eCallN, mkArgs, mkArg, mkSl, disA, slIn, putArgs, reSl, eChain, eIf, eNeg, fAdd, bInt, Bool.true_or, if_true]
  | false =>
    cases h2 : decide (at0 r i = at0 r j + 1) <;> rw [h2] at q2 <;> simp only [fnB, sSeq, sNx, sIf, sRet, sRetN, sSet, sSetIx, sExpr, Out.toS, Out.bind, Out.bindN, eOp, eCall, aCons, aNil, look, looks, slD, fO, eRd, eMv, oSl, eC, ofB, BR.out, nxO, stG, R.sl, Sl.isIo, eAnd, eOr, eNot, bAnd, bOr, bNot, toT, eTup, eLst, dsOf, fI, fIc, Sl.lst, Sl.putL, ioOut, List.replicate, List.cons_append, List.nil_append, List.getElem?_cons_zero, List.getElem?_cons_succ, List.set_cons_zero, List.set_cons_succ, eCallN, mkArgs, mkArg, mkSl, disA, slIn, putArgs, reSl, eChain, eIf, eNeg, fAdd, fGt, bInt, a1, a2, a3, a4, q2, Bool.false_or, Bool.true_and, Bool.false_and, Bool.false_eq_true, if_false] <;> rfl
end
end T

-- text V8
set_option Elab.async false
set_option linter.all false
set_option maxRecDepth 100000
set_option maxHeartbeats 4000000
namespace T
open PySem L2
section
variable {r o : List Int}
abbrev inB : Gam → OutS := (sSeq (sSet 5 (eAnd (eOp (fEq false) (fO (eOp fIx (oSl 0) (oSl 3))) (fO (eOp fIx (oSl 0) (oSl 4)))) (eOp fLt (fO (eOp fIx (oSl 1) (oSl 3))) (fO (eOp fIx (oSl 1) (oSl 4)))))) (sSeq (sSet 2 (eOp fAdd (oSl 2) (fO (eCall bInt (aCons (fO (eOr (eRd 5) (eAnd (eOp (fEq false) (fO (eOp fIx (oSl 0) (oSl 3))) (fO (eOp fAdd (fO (eOp fIx (oSl 0) (oSl 4))) (fO (eC (.int 1)))))) (eOp fGt (fO (eOp fIx (oSl 1) (oSl 3))) (fO (eOp fIx (oSl 1) (oSl 4))))))) aNil))))) sNx))
abbrev inR : Gam → Out (List D) := (mRng2 (aCons (fO (eOp fAdd (oSl 3) (fO (eC (.int 1))))) (aCons (fO (eCall bLen (aCons (oSl 0) aNil))) aNil)))
def lawI (r o : List Int) (i : Nat) (d : Int) : Int := (List.range ((r.length : Int) - ((i : Int) + 1)).toNat).foldl (fun d k => d + b2i (cL r o i (i + 1 + k))) d
theorem law_inner (d : Int) (i : Nat) (xi : Int) (ei : xi = (i : Int)) (hi : i < r.length) (hn : r.length ≤ 500) (hlen : o.length = r.length) (s4 s5 : Sl) (h4 : s4.isIo = false) (h5 : s5.isIo = false) :
    ∃ t4 t5, sFor inR (gNm 4) inB [.fz (rowD r), .fz (rowD o), .fz (.int d), .fz (.int xi), s4, s5] = .nx [.fz (rowD r), .fz (rowD o), .fz (.int (lawI r o i d)), .fz (.int xi), t4, t5] ∧ t4.isIo = false ∧ t5.isIo = false := by
  obtain ⟨γ', e, t4, t5, rfl, q4, q5⟩ := for_ok (mi := inR) (f := gNm 4) (b := inB) (γ := [.fz (rowD r), .fz (rowD o), .fz (.int d), .fz (.int xi), s4, s5]) (fun k : Nat => D.int ((xi + 1) + (k : Nat)))
    (fun (d : Int) γ => ∃ t4 t5, γ = [.fz (rowD r), .fz (rowD o), .fz (.int d), .fz (.int xi), t4, t5] ∧ t4.isIo = false ∧ t5.isIo = false) (fun d k => d + b2i (cL r o i (i + 1 + k))) (List.range ((r.length : Int) - (xi + 1)).toNat) d
    (by
      have hl : ((intD r).length : Int) = (r.length : Int) := by rw [intD_len]
      have b1 : -1000 ≤ (r.length : Int) := by omega
      have b2 : (r.length : Int) ≤ 1000 := by omega
      generalize (r.length : Int) = n at hl b1 b2
      refine rng2_ok (as := [.d (.int (xi + 1)), .d (.int n)]) ?_ rfl (by omega) (by omega) b1 b2
      simp only [fnB, sSeq, sNx, sIf, sRet, sRetN, sSet, sSetIx, sExpr, Out.toS, Out.bind, Out.bindN, eOp, eCall, aCons, aNil, look, looks, slD, fO, eRd, eMv, oSl, eC, ofB, BR.out, nxO, stG, R.sl, Sl.isIo, eAnd, eOr, eNot, bAnd, bOr, bNot, toT, eTup, eLst, dsOf, fI, fIc, Sl.lst, Sl.putL, ioOut, List.replicate, List.cons_append, List.nil_append, List.getElem?_cons_zero, List.getElem?_cons_succ, List.set_cons_zero, List.set_cons_succ, eCallN, mkArgs, mkArg, mkSl, disA, slIn, putArgs, reSl, eChain, eIf, eNeg, fAdd, bLen, hl])
    ⟨s4, s5, rfl, h4, h5⟩ (fun s k γ hk hJ => by
      obtain ⟨t4, t5, rfl, q4, q5⟩ := hJ
      have hk' := List.mem_range.mp hk
      have b := law_body s i (i + 1 + k) hi (by omega) hlen xi (xi + 1 + (k : Nat)) ei (by push_cast; omega) t5 q5
      refine ⟨_, _, ?_, b, _, _, rfl, rfl, rfl⟩
      show stG 4 (.fz (.int (xi + 1 + (k : Nat)))) _ = _
      unfold stG
      show (match t4.isIo with | true => none | false => some _) = _
      rw [q4]
      rfl)
  refine ⟨t4, t5, ?_, q4, q5⟩
  rw [e]
  unfold lawI
  rw [ei]

theorem nonio_set {i : Nat} {s : Sl} {γ : Gam} {t : Sl} (e : γ[i]? = some t) (h : t.isIo = false) : stG i s γ = some (γ.set i s) := by
  unfold stG
  rw [e]
  simp only [h]
theorem bSum_ok (r : List Int) : bSum [.tup (intD r)] = some (.val (.int r.sum)) := by
  unfold bSum
  dsimp only
  rw [intsOf_intD]
def lawD (r o : List Int) : Int := (List.range r.length).foldl (fun d i => lawI r o i d) 0
theorem law_counts (hn : r.length ≤ 500) (hlen : o.length = r.length) : B_law_path_counts [.fz (rowD r), .fz (rowD o)] = .ok (.fz (.tup [.int r.sum, .int (lawD r o)])) [.fz (rowD r), .fz (rowD o)] := by
  have hl : ((intD r).length : Int) = (r.length : Int) := by rw [intD_len]
  obtain ⟨γ', e, t3, t4, t5, rfl, q3, q4, q5⟩ := for_ok (mi := (mRng1 (aCons (fO (eCall bLen (aCons (oSl 0) aNil))) aNil))) (f := gNm 3) (b := sSeq (sFor inR (gNm 4) inB) sNx) (γ := [.fz (rowD r), .fz (rowD o), .fz (.int 0), .un, .un, .un]) (fun k : Nat => D.int (0 + (k : Nat)))
    (fun (d : Int) γ => ∃ t3 t4 t5, γ = [.fz (rowD r), .fz (rowD o), .fz (.int d), t3, t4, t5] ∧ t3.isIo = false ∧ t4.isIo = false ∧ t5.isIo = false) (fun d i => lawI r o i d) (List.range r.length) 0
    (by
      refine rng1_ok (as := [.d (.int ((intD r).length : Int))]) (i := ((intD r).length : Int)) ?_ rfl hl (by omega)
      simp only [fnB, sSeq, sNx, sIf, sRet, sRetN, sSet, sSetIx, sExpr, Out.toS, Out.bind, Out.bindN, eOp, eCall, aCons, aNil, look, looks, slD, fO, eRd, eMv, oSl, eC, ofB, BR.out, nxO, stG, R.sl, Sl.isIo, eAnd, eOr, eNot, bAnd, bOr, bNot, toT, eTup, eLst, dsOf, fI, fIc, Sl.lst, Sl.putL, ioOut, List.replicate, List.cons_append, List.nil_append, List.getElem?_cons_zero, List.getElem?_cons_succ, List.set_cons_zero, List.set_cons_succ, eCallN, mkArgs, mkArg, mkSl, disA, slIn, putArgs, reSl, eChain, eIf, eNeg, bLen])
    ⟨_, _, _, rfl, rfl, rfl, rfl⟩ (fun s k γ hk hJ => by
      obtain ⟨t3, t4, t5, rfl, q3, q4, q5⟩ := hJ
      have hk' := List.mem_range.mp hk
      obtain ⟨u4, u5, b, v4, v5⟩ := law_inner (r := r) (o := o) s k (0 + (k : Nat)) (by omega) hk' hn hlen t4 t5 q4 q5
      refine ⟨[.fz (rowD r), .fz (rowD o), .fz (.int s), .fz (.int (0 + (k : Nat))), t4, t5], _, ?_, (seq_nx b).trans rfl, _, _, _, rfl, rfl, v4, v5⟩
      exact nonio_set (t := t3) rfl q3)
  unfold B_law_path_counts s_law_path_counts
  refine (fnB_rt (γ := [.fz (rowD r), .fz (rowD o), .fz (.int (lawD r o)), t3, t4, t5]) (r := .fz (.tup [.int r.sum, .int (lawD r o)])) ?_).trans rfl
  show sSeq _ _ [.fz (rowD r), .fz (rowD o), .un, .un, .un, .un] = _
  rw [seq_nx (set_ok rfl rfl : sSet 2 (eC (.int 0)) [.fz (rowD r), .fz (rowD o), .un, .un, .un, .un] = .nx [.fz (rowD r), .fz (rowD o), .fz (.int 0), .un, .un, .un])]
  rw [seq_nx e]
  refine seq_rt (ret_ok ?_)
  have hs := bSum_ok r
  have f2 : ∀ a b : D, fitN ([a, b].length) = true := fun _ _ => rfl
  unfold lawD
  simp only [fnB, sSeq, sNx, sIf, sRet, sRetN, sSet, sSetIx, sExpr, Out.toS, Out.bind, Out.bindN, eOp, eCall, aCons, aNil, look, looks, slD, fO, eRd, eMv, oSl, eC, ofB, BR.out, nxO, stG, R.sl, Sl.isIo, eAnd, eOr, eNot, bAnd, bOr, bNot, toT, eTup, eLst, dsOf, fI, fIc, Sl.lst, Sl.putL, ioOut, List.replicate, List.cons_append, List.nil_append, List.getElem?_cons_zero, List.getElem?_cons_succ, List.set_cons_zero, List.set_cons_succ, eCallN, mkArgs, mkArg, mkSl, disA, slIn, putArgs, reSl, eChain, eIf, eNeg, hs, f2]
end
end T

-- text V9
set_option Elab.async false
set_option linter.all false
set_option maxRecDepth 100000
set_option maxHeartbeats 4000000
namespace T
open PySem L2
section
variable {r o : List Int}
/-- a pair of places with the difference -/
structure Pr where
  i : Nat
  j : Nat
  s : Int
def prD (p : Pr) : D := .tup [.int (p.i : Nat), .int (p.j : Nat), .int p.s]
def c2 (o : List Int) (p : Pr) : Bool := decide (at0 o p.j < at0 o p.i) == decide (p.s = 1)
theorem fEq_bl (a b : Bool) : fEq false (.bl a) (.bl b) = some (.val (.bl (a == b))) := by
  unfold fEq
  simp only [shD, eqd, Bool.and_self, Bool.false_eq_true, if_false]
theorem dinv_ok (ps : List Pr) (hp : ∀ p ∈ ps, p.i < o.length ∧ p.j < o.length) (hl : ps.length ≤ 1000) : B_dinv_along [.fz (.lst (ps.map prD)), .fz (rowD o)] = .ok (.fz (.int ((ps.filter (c2 o)).length : Nat))) [.fz (.lst (ps.map prD)), .fz (rowD o)] := by
  have e := eLc_map (mi := (mIter (fO (eRd 0)))) (vs := [2, 3, 4]) (f := (gTp 3 (gsCons (gNm 2) (gsCons (gNm 3) (gsCons (gNm 4) gsNil))))) (t := (toT (eOp (fEq false) (fO (eOp fGt (fO (eOp fIx (oSl 1) (oSl 2))) (fO (eOp fIx (oSl 1) (oSl 3))))) (fO (eOp (fEq false) (oSl 4) (fO (eC (.int 1)))))))) (e := (fO (eC (.int 1)))) (γ := [.fz (.lst (ps.map prD)), .fz (rowD o), .un, .un, .un])
    prD (fun p => [.fz (.lst (ps.map prD)), .fz (rowD o), .fz (.int (p.i : Nat)), .fz (.int (p.j : Nat)), .fz (.int p.s)]) (c2 o) (fun _ => .int 1) ps
    (by simp only [mIter, fnB, sSeq, sNx, sIf, sRet, sRetN, sSet, sSetIx, sExpr, Out.toS, Out.bind, Out.bindN, eOp, eCall, aCons, aNil, look, looks, slD, fO, eRd, eMv, oSl, eC, ofB, BR.out, nxO, stG, R.sl, Sl.isIo, eAnd, eOr, eNot, bAnd, bOr, bNot, toT, eTup, eLst, dsOf, fI, fIc, Sl.lst, Sl.putL, ioOut, List.replicate, List.cons_append, List.nil_append, List.getElem?_cons_zero, List.getElem?_cons_succ, List.set_cons_zero, List.set_cons_succ, eCallN, mkArgs, mkArg, mkSl, disA, slIn, putArgs, reSl, eChain, eIf, eNeg]) rfl (fun _ _ => rfl) (fun p hp' => by
      obtain ⟨h1, h2⟩ := hp p hp'
      have a1 := fIx_at (r := o) (i := p.i) rfl h1
      have a2 := fIx_at (r := o) (i := p.j) rfl h2
      have q := fEq_int false p.s 1
      have q2 := fEq_bl (decide (at0 o p.j < at0 o p.i)) (decide (p.s = 1))
      simp only [Bool.false_eq_true, if_false] at q
      unfold c2
      generalize ((p.i : Nat) : Int) = xi at a1 ⊢
      generalize ((p.j : Nat) : Int) = xj at a2 ⊢
      simp only [fnB, sSeq, sNx, sIf, sRet, sRetN, sSet, sSetIx, sExpr, Out.toS, Out.bind, Out.bindN, eOp, eCall, aCons, aNil, look, looks, slD, fO, eRd, eMv, oSl, eC, ofB, BR.out, nxO, stG, R.sl, Sl.isIo, eAnd, eOr, eNot, bAnd, bOr, bNot, toT, eTup, eLst, dsOf, fI, fIc, Sl.lst, Sl.putL, ioOut, List.replicate, List.cons_append, List.nil_append, List.getElem?_cons_zero, List.getElem?_cons_succ, List.set_cons_zero, List.set_cons_succ, eCallN, mkArgs, mkArg, mkSl, disA, slIn, putArgs, reSl, eChain, eIf, eNeg, fGt, a1, a2, q, q2]) (fun _ _ _ => rfl) (fun _ _ => rfl) (by omega)
  unfold B_dinv_along s_dinv_along
  refine (fnB_rt (γ := [.fz (.lst (ps.map prD)), .fz (rowD o), .un, .un, .un]) (r := .fz (.int ((ps.filter (c2 o)).length : Nat))) ?_).trans rfl
  refine seq_rt (ret_ok ?_)
  show eCall bLen _ [.fz (.lst (ps.map prD)), .fz (rowD o), .un, .un, .un] = _
  simp only [eCall, aCons, aNil, fO, Out.bind, e, looks, look, bLen, ofB, BR.out, List.length_map]
/-- all pairs of a row -/
def pairR (r : List Int) (i : Nat) : List Pr := (List.range ((r.length : Int) - ((i : Int) + 1)).toNat).filterMap fun k => if at0 r i - at0 r (i + 1 + k) = 0 ∨ at0 r i - at0 r (i + 1 + k) = 1 then some ⟨i, i + 1 + k, at0 r i - at0 r (i + 1 + k)⟩ else none
def pairsL (r : List Int) : List Pr := (List.range r.length).flatMap (pairR r)
theorem foldl_b2i {α : Type} (g : α → Bool) : ∀ (xs : List α) (d : Int), xs.foldl (fun d k => d + b2i (g k)) d = d + ((xs.filter g).length : Nat)
  | [], d => by simp
  | x :: xs, d => by
    rw [List.foldl_cons, foldl_b2i g xs]
    cases h : g x with
    | true => rw [List.filter_cons_of_pos h]; simp only [b2i, if_true, List.length_cons]; push_cast; omega
    | false => rw [List.filter_cons_of_neg (by rw [h]; simp)]; simp only [b2i, Bool.false_eq_true, if_false]; omega
theorem filter_fm {α β : Type} (g : α → Option β) (q : β → Bool) (p : α → Bool) : ∀ (xs : List α), (∀ x ∈ xs, p x = (match g x with | some y => q y | none => false)) → ((xs.filterMap g).filter q).length = (xs.filter p).length
  | [], _ => rfl
  | x :: xs, h => by
    have ih := filter_fm g q p xs fun y hy => h y (List.mem_cons_of_mem _ hy)
    have hx := h x List.mem_cons_self
    cases e : g x with
    | none =>
      rw [e] at hx
      rw [List.filterMap_cons_none e, List.filter_cons_of_neg (by rw [hx]; simp), ih]
    | some y =>
      rw [e] at hx
      rw [List.filterMap_cons_some e]
      cases hq : q y with
      | true => rw [List.filter_cons_of_pos hq, List.filter_cons_of_pos (by rw [hx]; exact hq), List.length_cons, List.length_cons, ih]
      | false => rw [List.filter_cons_of_neg (by rw [hq]; simp), List.filter_cons_of_neg (by rw [hx]; simp [hq]), ih]
theorem lawI_eq (hd : ∀ i j : Nat, i < r.length → j < r.length → i ≠ j → at0 o i ≠ at0 o j) (i : Nat) (hi : i < r.length) (d : Int) : lawI r o i d = d + (((pairR r i).filter (c2 o)).length : Nat) := by
  unfold lawI pairR
  rw [foldl_b2i, filter_fm _ (c2 o) (fun k => cL r o i (i + 1 + k))]
  intro k hk
  have hk' := List.mem_range.mp hk
  have hne := hd i (i + 1 + k) hi (by omega) (by omega)
  unfold cL
  by_cases h0 : at0 r i = at0 r (i + 1 + k)
  · have e0 : at0 r i - at0 r (i + 1 + k) = 0 := by omega
    rw [if_pos (.inl e0), decide_eq_true h0, Bool.true_and, decide_eq_false (show ¬ at0 r i = at0 r (i + 1 + k) + 1 by omega), Bool.false_and, Bool.or_false]
    unfold c2
    dsimp only
    rw [e0]
    by_cases h : at0 o i < at0 o (i + 1 + k)
    · rw [decide_eq_true h, decide_eq_false (show ¬ at0 o (i + 1 + k) < at0 o i by omega)]; rfl
    · rw [decide_eq_false h, decide_eq_true (show at0 o (i + 1 + k) < at0 o i by omega)]; rfl
  · rw [decide_eq_false h0, Bool.false_and, Bool.false_or]
    by_cases h1 : at0 r i = at0 r (i + 1 + k) + 1
    · have e1 : at0 r i - at0 r (i + 1 + k) = 1 := by omega
      rw [if_pos (.inr e1), decide_eq_true h1, Bool.true_and]
      unfold c2
      dsimp only
      rw [e1]
      cases decide (at0 o (i + 1 + k) < at0 o i) <;> rfl
    · rw [if_neg (by omega), decide_eq_false h1, Bool.false_and]
theorem foldl_len (g : Nat → List Pr) (h : Nat → Int → Int) (q : Pr → Bool) : ∀ (xs : List Nat) (d : Int), (∀ i ∈ xs, ∀ d, h i d = d + (((g i).filter q).length : Nat)) → xs.foldl (fun d i => h i d) d = d + (((xs.flatMap g).filter q).length : Nat)
  | [], d, _ => by simp
  | x :: xs, d, hh => by
    rw [List.foldl_cons, foldl_len g h q xs _ fun i hi => hh i (List.mem_cons_of_mem _ hi), hh x List.mem_cons_self, List.flatMap_cons, List.filter_append, List.length_append]
    push_cast
    omega
theorem lawD_eq (hd : ∀ i j : Nat, i < r.length → j < r.length → i ≠ j → at0 o i ≠ at0 o j) : lawD r o = (((pairsL r).filter (c2 o)).length : Nat) := by
  unfold lawD pairsL
  rw [foldl_len (pairR r) (lawI r o) (c2 o) _ 0 fun i hi d => lawI_eq hd i (List.mem_range.mp hi) d]
  omega
end
end T

-- text V10
set_option Elab.async false
set_option linter.all false
set_option maxRecDepth 100000
set_option maxHeartbeats 4000000
namespace T
open PySem L2
mutual
def beqD : D → D → Bool
  | .non, .non => true
  | .bl a, .bl b => a == b
  | .int a, .int b => decide (a = b)
  | .tup a, .tup b => beqL a b
  | .lst a, .lst b => beqL a b
  | _, _ => false
def beqL : List D → List D → Bool
  | [], [] => true
  | a :: as, b :: bs => (match beqD a b with
    | true => beqL as bs
    | false => false)
  | _, _ => false
end
mutual
theorem beqD_eq : ∀ (a b : D), beqD a b = true → a = b
  | .non, b, h => by cases b <;> first | rfl | (exfalso; simp [beqD] at h; done)
  | .bl a, b, h => by cases b <;> first | (simp [beqD] at h; rw [h]) | (exfalso; simp [beqD] at h; done)
  | .int a, b, h => by cases b <;> first | (simp [beqD] at h; rw [h]) | (exfalso; simp [beqD] at h; done)
  | .tup a, b, h => by
    cases b <;> first | (exfalso; simp [beqD] at h; done) | skip
    rename_i bs
    unfold beqD at h
    rw [beqL_eq a bs h]
  | .lst a, b, h => by
    cases b <;> first | (exfalso; simp [beqD] at h; done) | skip
    rename_i bs
    unfold beqD at h
    rw [beqL_eq a bs h]
  | .str _, _, h => by simp [beqD] at h
  | .dct _, _, h => by simp [beqD] at h
  | .ty _, _, h => by simp [beqD] at h
  | .fn _, _, h => by simp [beqD] at h
  | .frz _, _, h => by simp [beqD] at h
theorem beqL_eq : ∀ (a b : List D), beqL a b = true → a = b
  | [], [], _ => rfl
  | [], _ :: _, h => by simp [beqL] at h
  | _ :: _, [], h => by simp [beqL] at h
  | a :: as, b :: bs, h => by
    unfold beqL at h
    cases e : beqD a b with
    | false => rw [e] at h; cases h
    | true =>
      rw [e] at h
      rw [beqD_eq a b e, beqL_eq as bs h]
end
def beqR : R → R → Bool
  | .fz a, .fz b => beqD a b
  | .own a, .own b => beqD a b
  | _, _ => false
def beqG : Gam → Gam → Bool
  | [], [] => true
  | .fz a :: as, .fz b :: bs => (match beqD a b with
    | true => beqG as bs
    | false => false)
  | _, _ => false
theorem beqR_eq {a b : R} (h : beqR a b = true) : a = b := by
  cases a <;> cases b <;> first | (rw [beqD_eq _ _ h]) | (cases h; done)
theorem beqG_eq : ∀ {a b : Gam}, beqG a b = true → a = b
  | [], [], _ => rfl
  | [], _ :: _, h => by simp [beqG] at h
  | a :: as, [], h => by cases a <;> simp [beqG] at h
  | a :: as, b :: bs, h => by
    cases a <;> cases b <;> first | (exfalso; simp [beqG] at h; done) | skip
    rename_i x y
    unfold beqG at h
    cases e : beqD x y with
    | false => rw [e] at h; cases h
    | true =>
      rw [e] at h
      rw [beqD_eq x y e, beqG_eq h]
def chk (o : Out R) (x : R) (γ : Gam) : Bool := match o with
  | .ok y γ' => (match beqR y x with
    | true => beqG γ' γ
    | false => false)
  | _ => false
theorem chk_ok {o : Out R} {x : R} {γ : Gam} (h : chk o x γ = true) : o = .ok x γ := by
  unfold chk at h
  cases o with
  | ok y γ' =>
    simp only at h
    cases e : beqR y x with
    | false => rw [e] at h; cases h
    | true =>
      rw [e] at h
      rw [beqR_eq e, beqG_eq h]
  | er _ _ => cases h
  | bad => cases h
def climbsN (r : List Int) : List Nat := (List.range r.length).filter fun i => Nat.ble 1 i && decide (at0 r i = at0 r (i - 1) + 1)
def climbsL (r : List Int) : List Int := (climbsN r).map fun (i : Nat) => (i : Int)
def rowsL : Nat → List (List Int)
  | 0 => []
  | 1 => [[0]]
  | n + 1 => (rowsL n).flatMap fun r => (List.range (at0 r (r.length - 1) + 2).toNat).map fun (e : Nat) => r ++ [(e : Int)]
def rowChk (r : List Int) : Bool :=
  chk (B_rises [.fz (rowD r)]) (.fz (rowD (climbsL r))) [.fz (rowD r)] && (chk (B_rises_in [.fz (rowD r)]) (.fz (rowD (climbsL r))) [.fz (rowD r)] && (chk (B_law_climbs [.fz (rowD r)]) (.own (.lst (intD (climbsL r)))) [.fz (rowD r)]
  && (chk (B_require_row [.fz (rowD r)]) (.fz .non) [.fz (rowD r)] && (chk (B_index_pairs [.fz (rowD r)]) (.own (.lst ((pairsL r).map prD))) [.fz (rowD r)]
  && ((List.range r.length).all (fun i => chk (B_does_climb [.fz (rowD r), .fz (.int (i : Nat))]) (.fz (.bl (Nat.ble 1 i && decide (at0 r i = at0 r (i - 1) + 1)))) [.fz (rowD r), .fz (.int (i : Nat))])
  && (Nat.ble r.length 6 && Nat.ble 1 r.length))))))
theorem rows_1 : (rowsL 1).all rowChk = true := by decide +kernel
theorem rows_2 : (rowsL 2).all rowChk = true := by decide +kernel
theorem rows_3 : (rowsL 3).all rowChk = true := by decide +kernel
theorem rows_4 : (rowsL 4).all rowChk = true := by decide +kernel
theorem area_1 : chk (B_law_area_rows [.fz (.int 1)]) (.own (.lst ((rowsL 1).map rowD))) [.fz (.int 1)] = true := by decide +kernel
theorem area_2 : chk (B_law_area_rows [.fz (.int 2)]) (.own (.lst ((rowsL 2).map rowD))) [.fz (.int 2)] = true := by decide +kernel
theorem area_3 : chk (B_law_area_rows [.fz (.int 3)]) (.own (.lst ((rowsL 3).map rowD))) [.fz (.int 3)] = true := by decide +kernel
theorem area_4 : chk (B_law_area_rows [.fz (.int 4)]) (.own (.lst ((rowsL 4).map rowD))) [.fz (.int 4)] = true := by decide +kernel
theorem area_5 : chk (B_law_area_rows [.fz (.int 5)]) (.own (.lst ((rowsL 5).map rowD))) [.fz (.int 5)] = true := by decide +kernel
theorem area_6 : chk (B_law_area_rows [.fz (.int 6)]) (.own (.lst ((rowsL 6).map rowD))) [.fz (.int 6)] = true := by decide +kernel
end T

-- text V11
set_option Elab.async false
set_option linter.all false
set_option maxRecDepth 100000
set_option maxHeartbeats 4000000
namespace T
open PySem L2
theorem rows_5 : (rowsL 5).all rowChk = true := by decide +kernel
theorem rows_6 : (rowsL 6).all rowChk = true := by decide +kernel
/-! lots -/
def subs : List Int → List (List Int)
  | [] => [[]]
  | x :: xs => subs xs ++ (subs xs).map fun s => x :: s
def lastGt (l : List Int) (x : Int) : Bool := match l.getLast? with
  | none => true
  | some y => decide (y < x)
def lotsL (cs : List Int) : Nat → List (List Int)
  | 0 => [[]]
  | m + 1 => (lotsL cs m).flatMap fun l => (cs.filter (lastGt l)).map fun x => l ++ [x]
def lotChk (cs : List Int) (m : Nat) : Bool := chk (B_law_lots_from [.fz (.lst (intD cs)), .fz (.int (m : Nat))]) (.own (.lst ((lotsL cs m).map rowD))) [.fz (.lst (intD cs)), .fz (.int (m : Nat))]
  && ((lotsL cs m).all (fun l => l.all (fun i => memI i cs) && (asc l && Nat.ble l.length 5)) && Nat.blt 0 (lotsL cs m).length)
theorem lots_all : (subs [1, 2, 3, 4, 5]).all (fun cs => (List.range (cs.length + 1)).all (lotChk cs)) = true := by decide +kernel
def memL (a : List Int) : List (List Int) → Bool
  | [] => false
  | b :: bs => (match decide (a = b) with
    | true => true
    | false => memL a bs)
def rowChk2 (r : List Int) : Bool := memL (climbsL r) (subs [1, 2, 3, 4, 5]) && (climbsL r).all fun c => decide (1 ≤ c) && decide (c ≤ (r.length : Int) - 1)
theorem rows2 : ([1, 2, 3, 4, 5, 6].all fun n => (rowsL n).all rowChk2) = true := by decide +kernel
theorem rows_len : ([1, 2, 3, 4, 5, 6].all fun n => (rowsL n).all fun r => Nat.beq r.length n) = true := by decide +kernel
theorem rows_ne : ([1, 2, 3, 4, 5, 6].all fun n => Nat.blt 0 (rowsL n).length && Nat.ble (rowsL n).length 1000) = true := by decide +kernel
end T

-- text V12
set_option Elab.async false
set_option linter.all false
set_option maxRecDepth 100000
set_option maxHeartbeats 4000000
namespace T
open PySem L2
/-! the package's pairs and the law's -/
def pairSame (n m : Int) : Bool := match B_marked_rows [.fz (.int n), .fz (.int m)], B_law_marked_rows [.fz (.int n), .fz (.int m)] with
  | .ok ds [.fz (.int a), .fz (.int b)], .ok (.own (.lst es)) [.fz (.int c), .fz (.int d)] => decide (a = n) && (decide (b = m) && (decide (c = n) && (decide (d = m) && (match fEq true (.lst ds) (.lst es) with
    | some (.val (.bl false)) => true
    | _ => false))))
  | _, _ => false
theorem same_1 : pairSame 1 0 = true := by decide +kernel
theorem same_2 : ([0, 1].all fun m => pairSame 2 m) = true := by decide +kernel
theorem same_3 : ([0, 1, 2].all fun m => pairSame 3 m) = true := by decide +kernel
theorem same_4 : ([0, 1, 2, 3].all fun m => pairSame 4 m) = true := by decide +kernel
theorem same_5 : ([0, 1, 2, 3, 4].all fun m => pairSame 5 m) = true := by decide +kernel
theorem same_60 : pairSame 6 0 = true := by decide +kernel
theorem same_61 : pairSame 6 1 = true := by decide +kernel
theorem same_62 : pairSame 6 2 = true := by decide +kernel
theorem same_63 : pairSame 6 3 = true := by decide +kernel
theorem same_64 : pairSame 6 4 = true := by decide +kernel
theorem same_65 : pairSame 6 5 = true := by decide +kernel
end T

-- text V13
set_option Elab.async false
set_option linter.all false
set_option maxRecDepth 100000
set_option maxHeartbeats 4000000
namespace T
open PySem L2
section
variable {r o lot : List Int}
theorem path_in {FI FD : Gam → Out R} {ps : List Pr} {c : Int} (hI : FI [.fz (rowD r)] = .ok (.own (.lst (ps.map prD))) [.fz (rowD r)]) (hD : FD [.fz (.lst (ps.map prD)), .fz (rowD o)] = .ok (.fz (.int c)) [.fz (.lst (ps.map prD)), .fz (rowD o)]) :
    fnB 0 (sSeq (sRet (eTup (aCons (fO (eCall bSum (aCons (oSl 0) aNil))) (aCons (fO (eCallN 2 FD (aCons (fO (eCallN 1 FI (aCons (fO (eRd 0)) aNil))) (aCons (fO (eRd 1)) aNil)))) aNil)))) sNx) [.fz (rowD r), .fz (rowD o)] = .ok (.fz (.tup [.int r.sum, .int c])) [.fz (rowD r), .fz (rowD o)] := by
  have i1 := callN_1 (F := FI) (m1 := fO (eRd 0)) (γ := [.fz (rowD r), .fz (rowD o)]) rfl hI
  have i2 := callN_2 (F := FD) (m1 := fO (eCallN 1 FI (aCons (fO (eRd 0)) aNil))) (m2 := fO (eRd 1)) (γ := [.fz (rowD r), .fz (rowD o)]) (by
    generalize eCallN 1 FI (aCons (fO (eRd 0)) aNil) = m at i1 ⊢
    simp only [fO, i1]) rfl hD
  generalize eCallN 2 FD (aCons (fO (eCallN 1 FI (aCons (fO (eRd 0)) aNil))) (aCons (fO (eRd 1)) aNil)) = m at i2 ⊢
  refine (fnB_rt (γ := [.fz (rowD r), .fz (rowD o)]) (r := .fz (.tup [.int r.sum, .int c])) (seq_rt (ret_ok ?_))).trans rfl
  have hs := bSum_ok r
  have f2 : ∀ a b : D, fitN ([a, b].length) = true := fun _ _ => rfl
  show eTup _ [.fz (rowD r), .fz (rowD o)] = _
  simp only [fnB, sSeq, sNx, sIf, sRet, sRetN, sSet, sSetIx, sExpr, Out.toS, Out.bind, Out.bindN, eOp, eCall, aCons, aNil, look, looks, slD, fO, eRd, eMv, oSl, eC, ofB, BR.out, nxO, stG, R.sl, Sl.isIo, eAnd, eOr, eNot, bAnd, bOr, bNot, toT, eTup, eLst, dsOf, fI, fIc, Sl.lst, Sl.putL, ioOut, List.replicate, List.cons_append, List.nil_append, List.getElem?_cons_zero, List.getElem?_cons_succ, List.set_cons_zero, List.set_cons_succ, eCallN, mkArgs, mkArg, mkSl, disA, slIn, putArgs, reSl, eChain, eIf, eNeg, hs, f2, i2]
theorem entries_ok (hl : ∀ x ∈ lot, 0 ≤ x ∧ x < (r.length : Int)) (hn : lot.length ≤ 1000) (γ0 : Gam) (rest : Gam) (i j k : Nat)
    (e : eLc (mIter (fO (eRd j))) [k] (gNm k) mYes (fO (eOp fIx (oSl i) (oSl k))) γ0 = .ok (.own (.lst (intD (lot.map fun x => at0 r x.toNat)))) γ0) : eCall bSum (aCons (fO (eLc (mIter (fO (eRd j))) [k] (gNm k) mYes (fO (eOp fIx (oSl i) (oSl k))))) aNil) γ0 = .ok (.fz (.int (lot.map fun x => at0 r x.toNat).sum)) γ0 := by
  have hs : bSum [.lst (intD (lot.map fun x => at0 r x.toNat))] = some (.val (.int (lot.map fun x => at0 r x.toNat).sum)) := by
    unfold bSum
    dsimp only
    rw [intsOf_intD]
  generalize eLc (mIter (fO (eRd j))) [k] (gNm k) mYes (fO (eOp fIx (oSl i) (oSl k))) = m at e ⊢
  simp only [fnB, sSeq, sNx, sIf, sRet, sRetN, sSet, sSetIx, sExpr, Out.toS, Out.bind, Out.bindN, eOp, eCall, aCons, aNil, look, looks, slD, fO, eRd, eMv, oSl, eC, ofB, BR.out, nxO, stG, R.sl, Sl.isIo, eAnd, eOr, eNot, bAnd, bOr, bNot, toT, eTup, eLst, dsOf, fI, fIc, Sl.lst, Sl.putL, ioOut, List.replicate, List.cons_append, List.nil_append, List.getElem?_cons_zero, List.getElem?_cons_succ, List.set_cons_zero, List.set_cons_succ, eCallN, mkArgs, mkArg, mkSl, disA, slIn, putArgs, reSl, eChain, eIf, eNeg, e, hs]
theorem marked_entries_ok (hl : ∀ x ∈ lot, 0 ≤ x ∧ x < (r.length : Int)) (hn : lot.length ≤ 1000) : B_marked_entries [.fz (rowD r), .fz (rowD lot)] = .ok (.fz (.int (lot.map fun x => at0 r x.toNat).sum)) [.fz (rowD r), .fz (rowD lot)] := by
  have e := eLc_map (mi := mIter (fO (eRd 1))) (vs := [2]) (f := gNm 2) (t := mYes) (e := fO (eOp fIx (oSl 0) (oSl 2))) (γ := [.fz (rowD r), .fz (rowD lot), .un])
    D.int (fun x => [.fz (rowD r), .fz (rowD lot), .fz (.int x)]) (fun _ => true) (fun x => D.int (at0 r x.toNat)) lot
    (by simp only [mIter, fnB, sSeq, sNx, sIf, sRet, sRetN, sSet, sSetIx, sExpr, Out.toS, Out.bind, Out.bindN, eOp, eCall, aCons, aNil, look, looks, slD, fO, eRd, eMv, oSl, eC, ofB, BR.out, nxO, stG, R.sl, Sl.isIo, eAnd, eOr, eNot, bAnd, bOr, bNot, toT, eTup, eLst, dsOf, fI, fIc, Sl.lst, Sl.putL, ioOut, List.replicate, List.cons_append, List.nil_append, List.getElem?_cons_zero, List.getElem?_cons_succ, List.set_cons_zero, List.set_cons_succ, eCallN, mkArgs, mkArg, mkSl, disA, slIn, putArgs, reSl, eChain, eIf, eNeg, intD_map]) rfl (fun _ _ => rfl) (fun _ _ => rfl) (fun x hx _ => by
      obtain ⟨h0, h1⟩ := hl x hx
      have a := fIx_at (r := r) (i := x.toNat) (x := x) (by omega) (by omega)
      simp only [fnB, sSeq, sNx, sIf, sRet, sRetN, sSet, sSetIx, sExpr, Out.toS, Out.bind, Out.bindN, eOp, eCall, aCons, aNil, look, looks, slD, fO, eRd, eMv, oSl, eC, ofB, BR.out, nxO, stG, R.sl, Sl.isIo, eAnd, eOr, eNot, bAnd, bOr, bNot, toT, eTup, eLst, dsOf, fI, fIc, Sl.lst, Sl.putL, ioOut, List.replicate, List.cons_append, List.nil_append, List.getElem?_cons_zero, List.getElem?_cons_succ, List.set_cons_zero, List.set_cons_succ, eCallN, mkArgs, mkArg, mkSl, disA, slIn, putArgs, reSl, eChain, eIf, eNeg, a]) (fun _ _ => rfl) (by omega)
  rw [filter_yes, intD_of] at e
  have q := entries_ok hl hn _ [] 0 1 2 e
  unfold B_marked_entries s_marked_entries
  exact (fnB_rt (γ := [.fz (rowD r), .fz (rowD lot), .un]) (seq_rt (ret_ok q))).trans rfl
/-- labels as they are wanted -/
structure Lab (r o : List Int) : Prop where
  len : o.length = r.length
  rng : ∀ x ∈ o, 1 ≤ x ∧ x ≤ (r.length : Int)
  nd : o.Nodup
  up : ∀ i : Nat, 1 ≤ i → i < r.length → at0 r i = at0 r (i - 1) + 1 → at0 o (i - 1) < at0 o i
theorem okK_int (is : List Int) : (intD is).all okK = true := by
  rw [intD_map, List.all_map]
  exact List.all_eq_true.mpr fun _ _ => rfl
theorem labelled_ok {FW FC : Gam → Out R} (L : Lab r o) (hn : r.length ≤ 50) (hW : ∀ v a b, okK v = true → FW [.fz v, .fz (.int a), .fz (.int b)] = .ok (.fz (.bl (wi a b v))) [.fz v, .fz (.int a), .fz (.int b)])
    (hC : ∀ i : Nat, i < r.length → FC [.fz (rowD r), .fz (.int (i : Nat))] = .ok (.fz (.bl (Nat.ble 1 i && decide (at0 r i = at0 r (i - 1) + 1)))) [.fz (rowD r), .fz (.int (i : Nat))]) :
    fnB 2 (sSeq (sIf (bOr (bNot (toT (eCall bIsi (aCons (oSl 1) (aCons (fO (eC (.ty "tuple"))) aNil))))) (bNot (toT (eCall bAll (aCons (fO (eLc (mIter (fO (eRd 1))) [2] (gNm 2) mYes (fO (eCallN 3 FW (aCons (fO (eRd 2)) (aCons (fO (eC (.int 1))) (aCons (fO (eCall bLen (aCons (oSl 0) aNil))) aNil))))))) aNil))))) (sSeq (sRet (eC (.bl false))) sNx) sNx) (sSeq (sIf (bOr (toT (eOp (fEq true) (fO (eCall bLen (aCons (oSl 1) aNil))) (fO (eCall bLen (aCons (oSl 0) aNil))))) (toT (eOp (fEq true) (fO (eLenSet (aCons (fO (eRd 1)) aNil))) (fO (eCall bLen (aCons (oSl 0) aNil)))))) (sSeq (sRet (eC (.bl false))) sNx) sNx) (sSeq (sRet (eCall bAll (aCons (fO (eLc (mRng2 (aCons (fO (eC (.int 1))) (aCons (fO (eCall bLen (aCons (oSl 0) aNil))) aNil))) [3] (gNm 3) (toT (eCallN 2 FC (aCons (fO (eRd 0)) (aCons (fO (eRd 3)) aNil)))) (fO (eOp fGt (fO (eOp fIx (oSl 1) (oSl 3))) (fO (eOp fIx (oSl 1) (fO (eOp fSub (oSl 3) (fO (eC (.int 1))))))))))) aNil))) sNx)))
    [.fz (rowD r), .fz (rowD o)] = .ok (.fz (.bl true)) [.fz (rowD r), .fz (rowD o)] := by
  have e1 : bIsi [rowD o, .ty "tuple"] = some (.val (.bl true)) := isi_tup (rowD o) rfl
  have c1 := eLc_map (mi := mIter (fO (eRd 1))) (vs := [2]) (f := gNm 2) (t := mYes) (e := fO (eCallN 3 FW (aCons (fO (eRd 2)) (aCons (fO (eC (.int 1))) (aCons (fO (eCall bLen (aCons (oSl 0) aNil))) aNil))))) (γ := [.fz (rowD r), .fz (rowD o), .un, .un])
    D.int (fun x => [.fz (rowD r), .fz (rowD o), .fz (.int x), .un]) (fun _ => true) (fun x => D.bl (wi 1 (r.length : Int) (.int x))) o
    (by simp only [mIter, fnB, sSeq, sNx, sIf, sRet, sRetN, sSet, sSetIx, sExpr, Out.toS, Out.bind, Out.bindN, eOp, eCall, aCons, aNil, look, looks, slD, fO, eRd, eMv, oSl, eC, ofB, BR.out, nxO, stG, R.sl, Sl.isIo, eAnd, eOr, eNot, bAnd, bOr, bNot, toT, eTup, eLst, dsOf, fI, fIc, Sl.lst, Sl.putL, ioOut, List.replicate, List.cons_append, List.nil_append, List.getElem?_cons_zero, List.getElem?_cons_succ, List.set_cons_zero, List.set_cons_succ, eCallN, mkArgs, mkArg, mkSl, disA, slIn, putArgs, reSl, eChain, eIf, eNeg, intD_map]) rfl (fun _ _ => rfl) (fun _ _ => rfl) (fun x hx _ => by
      have w := hW (.int x) 1 (r.length : Int) rfl
      have c := callN_3 (F := FW) (m1 := fO (eRd 2)) (m2 := fO (eC (.int 1))) (m3 := fO (eCall bLen (aCons (oSl 0) aNil))) (γ := [.fz (rowD r), .fz (rowD o), .fz (.int x), .un]) (d1 := .int x) (d2 := .int 1) (d3 := .int (r.length : Int)) rfl rfl (by simp only [fnB, sSeq, sNx, sIf, sRet, sRetN, sSet, sSetIx, sExpr, Out.toS, Out.bind, Out.bindN, eOp, eCall, aCons, aNil, look, looks, slD, fO, eRd, eMv, oSl, eC, ofB, BR.out, nxO, stG, R.sl, Sl.isIo, eAnd, eOr, eNot, bAnd, bOr, bNot, toT, eTup, eLst, dsOf, fI, fIc, Sl.lst, Sl.putL, ioOut, List.replicate, List.cons_append, List.nil_append, List.getElem?_cons_zero, List.getElem?_cons_succ, List.set_cons_zero, List.set_cons_succ, eCallN, mkArgs, mkArg, mkSl, disA, slIn, putArgs, reSl, eChain, eIf, eNeg, bLen, intD_len]) w
      generalize eCallN 3 FW (aCons (fO (eRd 2)) (aCons (fO (eC (.int 1))) (aCons (fO (eCall bLen (aCons (oSl 0) aNil))) aNil))) = m at c ⊢
      simp only [fO, c]) (fun _ _ => rfl) (by have := L.len; omega)
  rw [filter_yes] at c1
  have q1 := all_ok c1
  have all1 : (o.all fun x => wi 1 (r.length : Int) (.int x)) = true := List.all_eq_true.mpr fun x hx => by
    obtain ⟨a, b⟩ := L.rng x hx
    show (decide (1 ≤ x) && decide (x ≤ (r.length : Int))) = true
    rw [decide_eq_true a, decide_eq_true b]
    rfl
  rw [all1] at q1
  have n1 : ∀ {a : Gam → OutS}, sIf (bOr (bNot (toT (eCall bIsi (aCons (oSl 1) (aCons (fO (eC (.ty "tuple"))) aNil))))) (bNot (toT (eCall bAll (aCons (fO (eLc (mIter (fO (eRd 1))) [2] (gNm 2) mYes (fO (eCallN 3 FW (aCons (fO (eRd 2)) (aCons (fO (eC (.int 1))) (aCons (fO (eCall bLen (aCons (oSl 0) aNil))) aNil))))))) aNil))))) a sNx [.fz (rowD r), .fz (rowD o), .un, .un] = .nx [.fz (rowD r), .fz (rowD o), .un, .un] := fun {a} => by
    refine (if_f ?_).trans rfl
    generalize eCall bAll (aCons (fO (eLc (mIter (fO (eRd 1))) [2] (gNm 2) mYes (fO (eCallN 3 FW (aCons (fO (eRd 2)) (aCons (fO (eC (.int 1))) (aCons (fO (eCall bLen (aCons (oSl 0) aNil))) aNil))))))) aNil) = m at q1 ⊢
    simp only [fnB, sSeq, sNx, sIf, sRet, sRetN, sSet, sSetIx, sExpr, Out.toS, Out.bind, Out.bindN, eOp, eCall, aCons, aNil, look, looks, slD, fO, eRd, eMv, oSl, eC, ofB, BR.out, nxO, stG, R.sl, Sl.isIo, eAnd, eOr, eNot, bAnd, bOr, bNot, toT, eTup, eLst, dsOf, fI, fIc, Sl.lst, Sl.putL, ioOut, List.replicate, List.cons_append, List.nil_append, List.getElem?_cons_zero, List.getElem?_cons_succ, List.set_cons_zero, List.set_cons_succ, eCallN, mkArgs, mkArg, mkSl, disA, slIn, putArgs, reSl, eChain, eIf, eNeg, e1, q1, Bool.not_true]
  have hlen := L.len
  have hset : (setL o).length = o.length := (setL_len L.nd fun _ => Iff.rfl).symm
  have n2 : ∀ {a : Gam → OutS}, sIf (bOr (toT (eOp (fEq true) (fO (eCall bLen (aCons (oSl 1) aNil))) (fO (eCall bLen (aCons (oSl 0) aNil))))) (toT (eOp (fEq true) (fO (eLenSet (aCons (fO (eRd 1)) aNil))) (fO (eCall bLen (aCons (oSl 0) aNil)))))) a sNx [.fz (rowD r), .fz (rowD o), .un, .un] = .nx [.fz (rowD r), .fz (rowD o), .un, .un] := fun {a} => by
    refine (if_f ?_).trans rfl
    have hs : setOfA [.d (rowD o)] = some o := by
      unfold setOfA
      dsimp only
      rw [intsOf_intD]
      dsimp only
      have : Nat.blt o.length 60 = true := by rw [Nat.blt_eq]; omega
      rw [this]
    have q : fEq true (.int (r.length : Int)) (.int (r.length : Int)) = some (.val (.bl false)) := by rw [fEq_int]; simp
    simp only [fnB, sSeq, sNx, sIf, sRet, sRetN, sSet, sSetIx, sExpr, Out.toS, Out.bind, Out.bindN, eOp, eCall, aCons, aNil, look, looks, slD, fO, eRd, eMv, oSl, eC, ofB, BR.out, nxO, stG, R.sl, Sl.isIo, eAnd, eOr, eNot, bAnd, bOr, bNot, toT, eTup, eLst, dsOf, fI, fIc, Sl.lst, Sl.putL, ioOut, List.replicate, List.cons_append, List.nil_append, List.getElem?_cons_zero, List.getElem?_cons_succ, List.set_cons_zero, List.set_cons_succ, eCallN, mkArgs, mkArg, mkSl, disA, slIn, putArgs, reSl, eChain, eIf, eNeg, bLen, eLenSet, intD_len, hs, hset, hlen, q]
  have c3 := eLc_map (mi := mRng2 (aCons (fO (eC (.int 1))) (aCons (fO (eCall bLen (aCons (oSl 0) aNil))) aNil))) (vs := [3]) (f := gNm 3) (t := toT (eCallN 2 FC (aCons (fO (eRd 0)) (aCons (fO (eRd 3)) aNil)))) (e := fO (eOp fGt (fO (eOp fIx (oSl 1) (oSl 3))) (fO (eOp fIx (oSl 1) (fO (eOp fSub (oSl 3) (fO (eC (.int 1))))))))) (γ := [.fz (rowD r), .fz (rowD o), .un, .un])
    (fun k : Nat => D.int (1 + (k : Nat))) (fun k => [.fz (rowD r), .fz (rowD o), .un, .fz (.int (1 + (k : Nat)))]) (fun k => decide (at0 r (1 + k) = at0 r k + 1)) (fun k => D.bl (decide (at0 o k < at0 o (1 + k)))) (List.range ((r.length : Int) - 1).toNat)
    (rng2_ok (as := [.d (.int 1), .d (.int (r.length : Int))]) (by simp only [fnB, sSeq, sNx, sIf, sRet, sRetN, sSet, sSetIx, sExpr, Out.toS, Out.bind, Out.bindN, eOp, eCall, aCons, aNil, look, looks, slD, fO, eRd, eMv, oSl, eC, ofB, BR.out, nxO, stG, R.sl, Sl.isIo, eAnd, eOr, eNot, bAnd, bOr, bNot, toT, eTup, eLst, dsOf, fI, fIc, Sl.lst, Sl.putL, ioOut, List.replicate, List.cons_append, List.nil_append, List.getElem?_cons_zero, List.getElem?_cons_succ, List.set_cons_zero, List.set_cons_succ, eCallN, mkArgs, mkArg, mkSl, disA, slIn, putArgs, reSl, eChain, eIf, eNeg, bLen, intD_len]) rfl (by decide) (by decide) (by omega) (by omega)) rfl (fun _ _ => rfl) (fun k hk => by
      have hk' := List.mem_range.mp hk
      have c := hC (1 + k) (by omega)
      have e2 : Nat.ble 1 (1 + k) = true := Nat.ble_eq_true_of_le (by omega)
      have e3 : 1 + k - 1 = k := by omega
      rw [e2, Bool.true_and, e3] at c
      have e4 : ((1 + k : Nat) : Int) = 1 + (k : Int) := by push_cast; rfl
      rw [e4] at c
      have q := callN_2 (F := FC) (m1 := fO (eRd 0)) (m2 := fO (eRd 3)) (γ := [.fz (rowD r), .fz (rowD o), .un, .fz (.int (1 + (k : Nat)))]) rfl rfl c
      generalize eCallN 2 FC (aCons (fO (eRd 0)) (aCons (fO (eRd 3)) aNil)) = m at q ⊢
      simp only [toT, q, Out.bind]) (fun k hk _ => by
      have hk' := List.mem_range.mp hk
      have a1 := fIx_at (r := o) (i := 1 + k) (x := 1 + (k : Int)) (by push_cast; rfl) (by omega)
      have a2 := fIx_at (r := o) (i := k) (x := 1 + (k : Int) - 1) (by omega) (by omega)
      generalize 1 + (k : Int) = x at a1 a2 ⊢
      simp only [fnB, sSeq, sNx, sIf, sRet, sRetN, sSet, sSetIx, sExpr, Out.toS, Out.bind, Out.bindN, eOp, eCall, aCons, aNil, look, looks, slD, fO, eRd, eMv, oSl, eC, ofB, BR.out, nxO, stG, R.sl, Sl.isIo, eAnd, eOr, eNot, bAnd, bOr, bNot, toT, eTup, eLst, dsOf, fI, fIc, Sl.lst, Sl.putL, ioOut, List.replicate, List.cons_append, List.nil_append, List.getElem?_cons_zero, List.getElem?_cons_succ, List.set_cons_zero, List.set_cons_succ, eCallN, mkArgs, mkArg, mkSl, disA, slIn, putArgs, reSl, eChain, eIf, eNeg, fGt, fSub, a1, a2]) (fun _ _ => rfl) (by rw [List.length_range]; omega)
  have q3 := all_ok c3
  have all3 : ((List.range ((r.length : Int) - 1).toNat).filter fun k => decide (at0 r (1 + k) = at0 r k + 1)).all (fun k => decide (at0 o k < at0 o (1 + k))) = true := List.all_eq_true.mpr fun k hk => by
    obtain ⟨h1, h2⟩ := List.mem_filter.mp hk
    have h1 := List.mem_range.mp h1
    have h2 := of_decide_eq_true h2
    have := L.up (1 + k) (by omega) (by omega) (by rw [show 1 + k - 1 = k by omega]; exact h2)
    rw [show 1 + k - 1 = k by omega] at this
    exact decide_eq_true this
  rw [all3] at q3
  refine (fnB_rt (γ := [.fz (rowD r), .fz (rowD o), .un, .un]) (r := .fz (.bl true)) ?_).trans rfl
  show sSeq _ _ [.fz (rowD r), .fz (rowD o), .un, .un] = _
  rw [seq_nx n1, seq_nx n2]
  exact seq_rt (ret_ok q3)
end
end T

-- text V14
set_option Elab.async false
set_option linter.all false
set_option maxRecDepth 100000
set_option maxHeartbeats 4000000
namespace T
open PySem L2
section
variable {r o lot cs : List Int}
theorem not_t {m : Gam → Out R} {γ : Gam} {b : Bool} (h : m γ = .ok (.fz (.bl b)) γ) : (bNot (toT m)) γ = .ok (!b) γ := by simp only [bNot, toT, h, Out.bind]
theorem req_marks {FR FM : Gam → Out R} {d v : D} (h1 : FR [.fz d] = .ok (.fz .non) [.fz d]) (h2 : FM [.fz d, .fz v] = .ok (.fz (.bl true)) [.fz d, .fz v]) :
    fnB 0 (sSeq (sExpr (eCallN 1 FR (aCons (fO (eRd 0)) aNil))) (sSeq (sIf (bNot (toT (eCallN 2 FM (aCons (fO (eRd 0)) (aCons (fO (eRd 1)) aNil))))) (sSeq sBad sNx) sNx) sNx)) [.fz d, .fz v] = .ok (.fz .non) [.fz d, .fz v] := by
  have c1 := callN_1 (F := FR) (m1 := fO (eRd 0)) (γ := [.fz d, .fz v]) rfl h1
  have c2 := callN_2 (F := FM) (m1 := fO (eRd 0)) (m2 := fO (eRd 1)) (γ := [.fz d, .fz v]) rfl rfl h2
  refine (fnB_nx (γ := [.fz d, .fz v]) ?_).trans rfl
  show sSeq _ _ [.fz d, .fz v] = _
  rw [seq_nx (ex_ok c1)]
  exact (seq_nx ((if_f (not_t c2)).trans rfl)).trans rfl
theorem are_marks_gen {FR FM : Gam → Out R} {d v : D} {b : Bool} (h1 : FR [.fz d] = .ok (.fz .non) [.fz d]) (h2 : FM [.fz d, .fz v] = .ok (.fz (.bl b)) [.fz d, .fz v]) :
    fnB 0 (sSeq (sExpr (eCallN 1 FR (aCons (fO (eRd 0)) aNil))) (sSeq (sRet (eCallN 2 FM (aCons (fO (eRd 0)) (aCons (fO (eRd 1)) aNil)))) sNx)) [.fz d, .fz v] = .ok (.fz (.bl b)) [.fz d, .fz v] := by
  have c1 := callN_1 (F := FR) (m1 := fO (eRd 0)) (γ := [.fz d, .fz v]) rfl h1
  have c2 := callN_2 (F := FM) (m1 := fO (eRd 0)) (m2 := fO (eRd 1)) (γ := [.fz d, .fz v]) rfl rfl h2
  refine (fnB_rt (γ := [.fz d, .fz v]) ?_).trans rfl
  show sSeq _ _ [.fz d, .fz v] = _
  rw [seq_nx (ex_ok c1)]
  exact seq_rt (ret_ok c2)
theorem counts_gen {FR FL FP FE : Gam → Out R} {d v w : D} {A S c : Int} (h1 : FR [.fz d, .fz v] = .ok (.fz .non) [.fz d, .fz v]) (h2 : FL [.fz d, .fz w] = .ok (.fz (.bl true)) [.fz d, .fz w]) (h3 : FP [.fz d, .fz w] = .ok (.fz (.tup [.int A, .int c])) [.fz d, .fz w]) (h4 : FE [.fz d, .fz v] = .ok (.fz (.int S)) [.fz d, .fz v]) :
    fnB 2 (sSeq (sExpr (eCallN 2 FR (aCons (fO (eRd 0)) (aCons (fO (eRd 1)) aNil)))) (sSeq (sIf (bNot (toT (eCallN 2 FL (aCons (fO (eRd 0)) (aCons (fO (eRd 2)) aNil))))) (sSeq sBad sNx) sNx) (sSeq (sAsg (fO (eCallN 2 FP (aCons (fO (eRd 0)) (aCons (fO (eRd 2)) aNil)))) (gTp 2 (gsCons (gNm 3) (gsCons (gNm 4) gsNil)))) (sSeq (sRet (eTup (aCons (fO (eOp fSub (oSl 3) (fO (eCallN 2 FE (aCons (fO (eRd 0)) (aCons (fO (eRd 1)) aNil)))))) (aCons (fO (eRd 4)) aNil)))) sNx))))
    [.fz d, .fz v, .fz w] = .ok (.fz (.tup [.int (A - S), .int c])) [.fz d, .fz v, .fz w] := by
  have c1 := callN_2 (F := FR) (m1 := fO (eRd 0)) (m2 := fO (eRd 1)) (γ := [.fz d, .fz v, .fz w, .un, .un]) rfl rfl h1
  have c2 := callN_2 (F := FL) (m1 := fO (eRd 0)) (m2 := fO (eRd 2)) (γ := [.fz d, .fz v, .fz w, .un, .un]) rfl rfl h2
  have c3 := callN_2 (F := FP) (m1 := fO (eRd 0)) (m2 := fO (eRd 2)) (γ := [.fz d, .fz v, .fz w, .un, .un]) rfl rfl h3
  have c4 := callN_2 (F := FE) (m1 := fO (eRd 0)) (m2 := fO (eRd 1)) (γ := [.fz d, .fz v, .fz w, .fz (.int A), .fz (.int c)]) rfl rfl h4
  refine (fnB_rt (γ := [.fz d, .fz v, .fz w, .fz (.int A), .fz (.int c)]) ?_).trans rfl
  show sSeq _ _ [.fz d, .fz v, .fz w, .un, .un] = _
  rw [seq_nx (ex_ok c1), seq_nx ((if_f (not_t c2)).trans rfl : sIf _ _ sNx _ = OutS.nx _)]
  have a3 : sAsg (fO (eCallN 2 FP (aCons (fO (eRd 0)) (aCons (fO (eRd 2)) aNil)))) (gTp 2 (gsCons (gNm 3) (gsCons (gNm 4) gsNil))) [.fz d, .fz v, .fz w, .un, .un] = .nx [.fz d, .fz v, .fz w, .fz (.int A), .fz (.int c)] := by
    generalize eCallN 2 FP (aCons (fO (eRd 0)) (aCons (fO (eRd 2)) aNil)) = m at c3 ⊢
    unfold sAsg fO
    rw [c3]
    rfl
  rw [seq_nx a3]
  refine seq_rt (ret_ok ?_)
  generalize eCallN 2 FE (aCons (fO (eRd 0)) (aCons (fO (eRd 1)) aNil)) = m at c4 ⊢
  have f2 : ∀ a b : D, fitN ([a, b].length) = true := fun _ _ => rfl
  simp only [fnB, sSeq, sNx, sIf, sRet, sRetN, sSet, sSetIx, sExpr, Out.toS, Out.bind, Out.bindN, eOp, eCall, aCons, aNil, look, looks, slD, fO, eRd, eMv, oSl, eC, ofB, BR.out, nxO, stG, R.sl, Sl.isIo, eAnd, eOr, eNot, bAnd, bOr, bNot, toT, eTup, eLst, dsOf, fI, fIc, Sl.lst, Sl.putL, ioOut, List.replicate, List.cons_append, List.nil_append, List.getElem?_cons_zero, List.getElem?_cons_succ, List.set_cons_zero, List.set_cons_succ, eCallN, mkArgs, mkArg, mkSl, disA, slIn, putArgs, reSl, eChain, eIf, eNeg, c4, fSub, f2]
/-! near marks -/
theorem aC {m : Gam → Out Ar} {ms : Gam → Out (List Ar)} {γ : Gam} {a : Ar} {as : List Ar} (h1 : m γ = .ok a γ) (h2 : ms γ = .ok as γ) : aCons m ms γ = .ok (a :: as) γ := by simp only [aCons, Out.bind, h1, h2]
theorem oO {m : Gam → Out R} {γ : Gam} {d : D} (h : m γ = .ok (.fz d) γ) : fO m γ = .ok (.d d) γ := by simp only [fO, h]
theorem oW {m : Gam → Out R} {γ : Gam} {d : D} (h : m γ = .ok (.own d) γ) : fO m γ = .ok (.d d) γ := by simp only [fO, h]
theorem dsOf_map : ∀ ds : List D, dsOf (ds.map Ar.d) = some ds
  | [] => rfl
  | d :: ds => by rw [List.map_cons, dsOf, dsOf_map ds]
theorem eL {ms : Gam → Out (List Ar)} {γ : Gam} {ds : List D} (h : ms γ = .ok (ds.map Ar.d) γ) (hf : fitN ds.length = true) : eLst ms γ = .ok (.own (.lst ds)) γ := by simp only [eLst, Out.bind, h, dsOf_map, hf]
theorem eT {ms : Gam → Out (List Ar)} {γ : Gam} {ds : List D} (h : ms γ = .ok (ds.map Ar.d) γ) (hf : fitN ds.length = true) : eTup ms γ = .ok (.fz (.tup ds)) γ := by simp only [eTup, Out.bind, h, dsOf_map, hf]
theorem add_ok (a b : List D) (γ : Gam) (hf : fitN (a.length + b.length) = true) : ofB (fAdd (.tup a) (.tup b)) γ = .ok (.fz (.tup (a ++ b))) γ := by
  unfold fAdd
  dsimp only
  rw [hf]
  dsimp only
  cases a with
  | nil => rfl
  | cons x a =>
    cases b with
    | nil => simp [nilD, ofB, BR.out]
    | cons y b => rfl
theorem eAdd {ma mb : Gam → Out Ar} {γ : Gam} {x y : Ar} {a b : List D} (h1 : ma γ = .ok x γ) (h2 : mb γ = .ok y γ) (l1 : look γ x = some (.tup a)) (l2 : look γ y = some (.tup b)) (hf : fitN (a.length + b.length) = true) : eOp fAdd ma mb γ = .ok (.fz (.tup (a ++ b))) γ := by
  have q := add_ok a b γ hf
  simp only [eOp, Out.bind, h1, h2, l1, l2, q]
theorem sl01 (ds : List D) (γ : Gam) : ofB (fSl (.tup ds) none (some 1)) γ = .ok (.fz (.tup (ds.take 1))) γ := by
  cases ds with
  | nil => rfl
  | cons d ds =>
    cases ds with
    | nil => rfl
    | cons d2 ds =>
      have e : HT.sIx (d :: d2 :: ds).length (d :: d2 :: ds).length (some 1) = 1 := by
        show HT.sIx (ds.length + 2) (ds.length + 2) (some 1) = 1
        unfold HT.sIx
        simp
      have e2 : HT.sIx (d :: d2 :: ds).length 0 none = 0 := rfl
      unfold fSl
      dsimp only
      rw [e, e2]
      have : (0 == 0 && 1 == (d :: d2 :: ds).length) = false := by simp
      rw [this]
      simp only [ofB, BR.out]
      unfold cutD
      rw [e, e2]
      rfl
end
end T

-- text V15
set_option Elab.async false
set_option linter.all false
set_option maxRecDepth 100000
set_option maxHeartbeats 4000000
namespace T
open PySem L2
section
variable {r lot cs : List Int} {d : D}
theorem okV_row (is : List Int) (h : is.length ≤ 1000) : okV (rowD is) = true := by
  show (true && ((intD is).all okK && Nat.ble (intD is).length 1000)) = true
  rw [okK_int, intD_len, Nat.ble_eq_true_of_le h]
  rfl
theorem aN {γ : Gam} : aNil γ = .ok [] γ := rfl
theorem fit_of {n : Nat} (h : n ≤ 10000) : fitN n = true := Nat.ble_eq_true_of_le (by omega)
theorem app_ok {ms : Gam → Out (List Ar)} {a b c : Sl} {vs : List D} {t : Sl} {x : D} (h : ms [a, b, c, .own (.lst vs), t] = .ok [.d x] [a, b, c, .own (.lst vs), t]) (hf : vs.length ≤ 9000) : sExpr (eMeth 3 fAppend ms) [a, b, c, .own (.lst vs), t] = .nx [a, b, c, .own (.lst (vs ++ [x])), t] := by
  have f : fAppend [x] vs = some (.non, vs ++ [x]) := by
    show (match fitN (vs.length + 1) with
      | true => some (D.non, vs ++ [x])
      | false => none) = _
    rw [fit_of (by omega)]
  refine ex_ok (γ1 := [a, b, c, .own (.lst (vs ++ [x])), t]) (r := .fz .non) ?_
  simp only [eMeth, Sl.lst, h, Out.bind, dsOf, List.getElem?_cons_zero, List.getElem?_cons_succ, f, Sl.putL, List.set_cons_zero, List.set_cons_succ]
theorem tupRg_ok {m : Gam → Out Ar} {γ : Gam} {a : Ar} {i : Int} (h : m γ = .ok a γ) (l : look γ a = some (.int i)) (hr : rgB 0 i = true) : eTupRg1 m γ = .ok (.fz (.tup (rgD 0 (i - 0).toNat))) γ := by
  simp only [eTupRg1, Out.bind, h, l, hr]
theorem rgB_of {i : Int} (h0 : 0 ≤ i) (h : i ≤ 1000) : rgB 0 i = true := by
  unfold rgB
  rw [inRg_of (by omega) (by omega), inRg_of (by omega) h, Nat.ble_eq_true_of_le (show (i - 0).toNat ≤ 16777216 by omega)]
  rfl
theorem loopS_cnt {α : Type} {f : D → Gam → Option Gam} {b : Gam → OutS} (cst : α → D) (J : Nat → Gam → Prop) (B : Nat) : ∀ (xs : List α) (k : Nat) (γ : Gam), J k γ → k + xs.length ≤ B → (∀ k x γ, x ∈ xs → k < B → J k γ → ∃ γ1 γ2, f (cst x) γ = some γ1 ∧ b γ1 = .nx γ2 ∧ J (k + 1) γ2) → ∃ γ', loopS f b (xs.map cst) γ = .nx γ' ∧ J (k + xs.length) γ'
  | [], k, γ, h, _, _ => ⟨γ, rfl, h⟩
  | x :: xs, k, γ, h, hB, hs => by
    have hl : (x :: xs).length = xs.length + 1 := rfl
    obtain ⟨γ1, γ2, e1, e2, h2⟩ := hs k x γ List.mem_cons_self (by omega) h
    obtain ⟨γ', e, hj⟩ := loopS_cnt cst J B xs (k + 1) γ2 h2 (by omega) fun k y γ hy => hs k y γ (List.mem_cons_of_mem _ hy)
    refine ⟨γ', ?_, by rw [show k + (x :: xs).length = k + 1 + xs.length by omega]; exact hj⟩
    rw [List.map_cons]
    unfold loopS
    rw [e1]
    simp only [e2, e]
def firstE (lot : List Int) : List D := [rowD lot, .lst (intD lot), .tup (intD lot).reverse, .tup (intD lot ++ (intD lot).take 1), .tup (intD lot).tail, .non, .int 0, .str "1", .tup [.non], .tup [.bl true], .tup [.tup [.int 1]], .dct [], .tup [.int (-1)]]
theorem first_ok (h : lot.length ≤ 100) : ∀ v ∈ firstE lot, okV v = true := by
  have e1 : (intD lot).reverse = intD lot.reverse := by rw [intD_map, intD_map, List.map_reverse]
  have e2 : intD lot ++ (intD lot).take 1 = intD (lot ++ lot.take 1) := by simp [intD_map]
  have e3 := intD_tail lot
  intro v hv
  unfold firstE at hv
  rw [e1, e2, e3] at hv
  have l1 : (lot ++ lot.take 1).length ≤ 1000 := by simp; omega
  have l2 : lot.tail.length ≤ 1000 := by simp; omega
  simp only [List.mem_cons, List.not_mem_nil, or_false] at hv
  rcases hv with rfl | rfl | rfl | rfl | rfl | rfl | rfl | rfl | rfl | rfl | rfl | rfl | rfl
  · exact okV_row _ (by omega)
  · rfl
  · exact okV_row _ (by simp; omega)
  · exact okV_row _ l1
  · exact okV_row _ l2
  all_goals rfl
theorem first_list (h : lot.length ≤ 100) : sSet 3 (eLst (aCons (fO (eRd 2)) (aCons (fO (eCall bList (aCons (oSl 2) aNil))) (aCons (fO (eRev (oSl 2))) (aCons (fO (eOp fAdd (oSl 2) (fO (eSl (oSl 2) pNone (pSome (fO (eC (.int 1)))))))) (aCons (fO (eSl (oSl 2) (pSome (fO (eC (.int 1)))) pNone)) (aCons (fO (eC .non)) (aCons (fO (eC (.int 0))) (aCons (fO (eC (.str "1"))) (aCons (fO (eTup (aCons (fO (eC .non)) aNil))) (aCons (fO (eTup (aCons (fO (eC (.bl true))) aNil))) (aCons (fO (eTup (aCons (fO (eTup (aCons (fO (eC (.int 1))) aNil))) aNil))) (aCons (fO (eC (.dct []))) (aCons (fO (eTup (aCons (fO (eNeg (fO (eC (.int 1))))) aNil))) aNil))))))))))))))
    [.io d, .fz (rowD r), .fz (rowD lot), .un, .un] = .nx [.io d, .fz (rowD r), .fz (rowD lot), .own (.lst (firstE lot)), .un] := by
  have s1 : eSl (oSl 2) pNone (pSome (fO (eC (.int 1)))) [.io d, .fz (rowD r), .fz (rowD lot), .un, .un] = .ok (.fz (.tup ((intD lot).take 1))) [.io d, .fz (rowD r), .fz (rowD lot), .un, .un] := (by
    rw [← sl01 (intD lot) [.io d, .fz (rowD r), .fz (rowD lot), .un, .un]]; rfl)
  have s2 : eSl (oSl 2) (pSome (fO (eC (.int 1)))) pNone [.io d, .fz (rowD r), .fz (rowD lot), .un, .un] = .ok (.fz (.tup (intD lot).tail)) [.io d, .fz (rowD r), .fz (rowD lot), .un, .un] := (by
    rw [← sl1 (intD lot) [.io d, .fz (rowD r), .fz (rowD lot), .un, .un]]; rfl)
  have s3 := eAdd (ma := oSl 2) (mb := fO (eSl (oSl 2) pNone (pSome (fO (eC (.int 1)))))) (γ := [.io d, .fz (rowD r), .fz (rowD lot), .un, .un]) (x := .sl 2) (a := intD lot) rfl (oO s1) rfl rfl (fit_of (by
    rw [intD_len]
    have : ((intD lot).take 1).length ≤ 1 := List.length_take_le _ _
    omega))
  exact set_ok (eL (ds := firstE lot) (aC rfl (aC rfl (aC rfl (aC (oO s3) (aC (oO s2) (aC rfl (aC rfl (aC rfl (aC rfl (aC rfl (aC rfl (aC rfl (aC rfl rfl))))))))))))) rfl) rfl

theorem near_turn {vs : List D} {i : Int} {t : Sl} (hv : vs.length ≤ 9000) (hl : lot.length ≤ 50) :
    sSeq (sSet 3 (eOp fAdd (oSl 3) (fO (eLst (aCons (fO (eTup (aCons (fO (eRd 4)) aNil))) (aCons (fO (eOp fAdd (oSl 2) (fO (eTup (aCons (fO (eRd 4)) aNil))))) (aCons (fO (eCall bTuple (aCons (fO (eSortSet (aCons (fO (eOp fAdd (oSl 2) (fO (eTup (aCons (fO (eRd 4)) aNil))))) aNil))) aNil))) aNil))))))) sNx [.io d, .fz (rowD r), .fz (rowD lot), .own (.lst vs), .fz (.int i)]
    = .nx [.io d, .fz (rowD r), .fz (rowD lot), .own (.lst (vs ++ [rowD [i], rowD (lot ++ [i]), rowD (setL (lot ++ [i]))])), .fz (.int i)] := by
  have t1 : eTup (aCons (fO (eRd 4)) aNil) [.io d, .fz (rowD r), .fz (rowD lot), .own (.lst vs), .fz (.int i)] = .ok (.fz (.tup [.int i])) [.io d, .fz (rowD r), .fz (rowD lot), .own (.lst vs), .fz (.int i)] := rfl
  have a1 := eAdd (ma := oSl 2) (mb := fO (eTup (aCons (fO (eRd 4)) aNil))) (γ := [.io d, .fz (rowD r), .fz (rowD lot), .own (.lst vs), .fz (.int i)]) (x := .sl 2) (a := intD lot) rfl (oO t1) rfl rfl (fit_of (by rw [intD_len]; simp; omega))
  have e1 : intD lot ++ [D.int i] = intD (lot ++ [i]) := by rw [intD_app]; rfl
  rw [e1] at a1
  have hs : setOfA [.d (rowD (lot ++ [i]))] = some (lot ++ [i]) := by
    unfold setOfA
    dsimp only
    rw [intsOf_intD]
    dsimp only
    have : Nat.blt (lot ++ [i]).length 60 = true := by rw [Nat.blt_eq]; simp; omega
    rw [this]
  have a2 : eSortSet (aCons (fO (eOp fAdd (oSl 2) (fO (eTup (aCons (fO (eRd 4)) aNil))))) aNil) [.io d, .fz (rowD r), .fz (rowD lot), .own (.lst vs), .fz (.int i)] = .ok (.own (.lst (intD (setL (lot ++ [i]))))) [.io d, .fz (rowD r), .fz (rowD lot), .own (.lst vs), .fz (.int i)] := by
    have q : aCons (fO (eOp fAdd (oSl 2) (fO (eTup (aCons (fO (eRd 4)) aNil))))) aNil [.io d, .fz (rowD r), .fz (rowD lot), .own (.lst vs), .fz (.int i)] = .ok [.d (rowD (lot ++ [i]))] _ := aC (oO a1) rfl
    unfold eSortSet
    rw [q]
    simp only [Out.bind, hs]
  have a3 : eCall bTuple (aCons (fO (eSortSet (aCons (fO (eOp fAdd (oSl 2) (fO (eTup (aCons (fO (eRd 4)) aNil))))) aNil))) aNil) [.io d, .fz (rowD r), .fz (rowD lot), .own (.lst vs), .fz (.int i)] = .ok (.fz (rowD (setL (lot ++ [i])))) [.io d, .fz (rowD r), .fz (rowD lot), .own (.lst vs), .fz (.int i)] := by
    generalize eSortSet (aCons (fO (eOp fAdd (oSl 2) (fO (eTup (aCons (fO (eRd 4)) aNil))))) aNil) = m at a2 ⊢
    simp only [fnB, sSeq, sNx, sIf, sRet, sRetN, sSet, sSetIx, sExpr, Out.toS, Out.bind, Out.bindN, eOp, eCall, aCons, aNil, look, looks, slD, fO, eRd, eMv, oSl, eC, ofB, BR.out, nxO, stG, R.sl, Sl.isIo, eAnd, eOr, eNot, bAnd, bOr, bNot, toT, eTup, eLst, dsOf, fI, fIc, Sl.lst, Sl.putL, ioOut, List.replicate, List.cons_append, List.nil_append, List.getElem?_cons_zero, List.getElem?_cons_succ, List.set_cons_zero, List.set_cons_succ, eCallN, mkArgs, mkArg, mkSl, disA, slIn, putArgs, reSl, eChain, eIf, eNeg, a2, bTuple]
  have a4 := eL (ds := [rowD [i], rowD (lot ++ [i]), rowD (setL (lot ++ [i]))]) (aC (oO t1) (aC (oO a1) (aC (oO a3) aN))) rfl
  generalize eLst (aCons (fO (eTup (aCons (fO (eRd 4)) aNil))) (aCons (fO (eOp fAdd (oSl 2) (fO (eTup (aCons (fO (eRd 4)) aNil))))) (aCons (fO (eCall bTuple (aCons (fO (eSortSet (aCons (fO (eOp fAdd (oSl 2) (fO (eTup (aCons (fO (eRd 4)) aNil))))) aNil))) aNil))) aNil))) = m at a4 ⊢
  have fa : fAdd (.lst vs) (.lst [rowD [i], rowD (lot ++ [i]), rowD (setL (lot ++ [i]))]) = some (.newL (vs ++ [rowD [i], rowD (lot ++ [i]), rowD (setL (lot ++ [i]))])) := by
    unfold fAdd
    dsimp only
    rw [fit_of (by simp; omega)]
  refine (seq_nx (set_ok (r := .own (.lst (vs ++ [rowD [i], rowD (lot ++ [i]), rowD (setL (lot ++ [i]))]))) (γ1 := [.io d, .fz (rowD r), .fz (rowD lot), .own (.lst vs), .fz (.int i)]) ?_ rfl)).trans rfl
  generalize (vs ++ [rowD [i], rowD (lot ++ [i]), rowD (setL (lot ++ [i]))]) = w at fa ⊢
  generalize [rowD [i], rowD (lot ++ [i]), rowD (setL (lot ++ [i]))] = u at fa a4
  simp only [fnB, sSeq, sNx, sIf, sRet, sRetN, sSet, sSetIx, sExpr, Out.toS, Out.bind, Out.bindN, eOp, eCall, aCons, aNil, look, looks, slD, fO, eRd, eMv, oSl, eC, ofB, BR.out, nxO, stG, R.sl, Sl.isIo, eAnd, eOr, eNot, bAnd, bOr, bNot, toT, eTup, eLst, dsOf, fI, fIc, Sl.lst, Sl.putL, ioOut, List.replicate, List.cons_append, List.nil_append, List.getElem?_cons_zero, List.getElem?_cons_succ, List.set_cons_zero, List.set_cons_succ, eCallN, mkArgs, mkArg, mkSl, disA, slIn, putArgs, reSl, eChain, eIf, eNeg, a4, fa]

theorem near_gen {FC : Gam → Out R} (hC : FC [.fz (rowD r)] = .ok (.own (.lst (intD cs))) [.fz (rowD r)]) (hr : r.length ≤ 6) (hl : lot.length ≤ 5) (hcs : cs.length ≤ 100) :
    ∃ vs, fnB 2 (sSeq (sSet 3 (eLst (aCons (fO (eRd 2)) (aCons (fO (eCall bList (aCons (oSl 2) aNil))) (aCons (fO (eRev (oSl 2))) (aCons (fO (eOp fAdd (oSl 2) (fO (eSl (oSl 2) pNone (pSome (fO (eC (.int 1)))))))) (aCons (fO (eSl (oSl 2) (pSome (fO (eC (.int 1)))) pNone)) (aCons (fO (eC .non)) (aCons (fO (eC (.int 0))) (aCons (fO (eC (.str "1"))) (aCons (fO (eTup (aCons (fO (eC .non)) aNil))) (aCons (fO (eTup (aCons (fO (eC (.bl true))) aNil))) (aCons (fO (eTup (aCons (fO (eTup (aCons (fO (eC (.int 1))) aNil))) aNil))) (aCons (fO (eC (.dct []))) (aCons (fO (eTup (aCons (fO (eNeg (fO (eC (.int 1))))) aNil))) aNil))))))))))))))) (sSeq (sExpr (eMeth 3 fAppend (aCons (fO (eTupRg1 (fO (eCall bLen (aCons (oSl 1) aNil))))) aNil))) (sSeq (sExpr (eMeth 3 fAppend (aCons (fO (eTup (aCons (fO (eCall bLen (aCons (oSl 1) aNil))) aNil))) aNil))) (sSeq (sExpr (eMeth 3 fAppend (aCons (fO (eCall bTuple (aCons (fO (eCallN 1 FC (aCons (fO (eRd 1)) aNil))) aNil))) aNil))) (sSeq (sFor (mRng1 (aCons (fO (eCall bLen (aCons (oSl 1) aNil))) aNil)) (gNm 4) (sSeq (sSet 3 (eOp fAdd (oSl 3) (fO (eLst (aCons (fO (eTup (aCons (fO (eRd 4)) aNil))) (aCons (fO (eOp fAdd (oSl 2) (fO (eTup (aCons (fO (eRd 4)) aNil))))) (aCons (fO (eCall bTuple (aCons (fO (eSortSet (aCons (fO (eOp fAdd (oSl 2) (fO (eTup (aCons (fO (eRd 4)) aNil))))) aNil))) aNil))) aNil))))))) sNx)) (sSeq (sRet (eMv 3)) sNx))))))
      [.io d, .fz (rowD r), .fz (rowD lot)] = .ok (.own (.lst vs)) [.io d, .fz (rowD r), .fz (rowD lot)] ∧ ∀ v ∈ vs, okV v = true := by
  have hL : eCall bLen (aCons (oSl 1) aNil) = fun γ => eCall bLen (aCons (oSl 1) aNil) γ := rfl
  have len : ∀ a c e : Sl, eCall bLen (aCons (oSl 1) aNil) [a, .fz (rowD r), .fz (rowD lot), c, e] = .ok (.fz (.int (r.length : Int))) [a, .fz (rowD r), .fz (rowD lot), c, e] := fun a c e => by simp only [fnB, sSeq, sNx, sIf, sRet, sRetN, sSet, sSetIx, sExpr, Out.toS, Out.bind, Out.bindN, eOp, eCall, aCons, aNil, look, looks, slD, fO, eRd, eMv, oSl, eC, ofB, BR.out, nxO, stG, R.sl, Sl.isIo, eAnd, eOr, eNot, bAnd, bOr, bNot, toT, eTup, eLst, dsOf, fI, fIc, Sl.lst, Sl.putL, ioOut, List.replicate, List.cons_append, List.nil_append, List.getElem?_cons_zero, List.getElem?_cons_succ, List.set_cons_zero, List.set_cons_succ, eCallN, mkArgs, mkArg, mkSl, disA, slIn, putArgs, reSl, eChain, eIf, eNeg, bLen, intD_len]
  have x1 := tupRg_ok (oO (len (.io d) (.own (.lst (firstE lot))) .un)) rfl (rgB_of (by omega) (by omega))
  have p1 := app_ok (aC (oO x1) aN) (show (firstE lot).length ≤ 9000 by simp [firstE])
  generalize hA : firstE lot ++ [.tup (rgD 0 ((r.length : Int) - 0).toNat)] = A at p1
  have lA : A.length = 14 := by rw [← hA]; simp [firstE]
  have x2 := eT (ds := [.int (r.length : Int)]) (aC (oO (len (.io d) (.own (.lst A)) .un)) aN) rfl
  have p2 := app_ok (aC (oO x2) aN) (show A.length ≤ 9000 by omega)
  generalize hB : A ++ [.tup [.int (r.length : Int)]] = B at p2
  have lB : B.length = 15 := by rw [← hB]; simp [lA]
  have c3 := callN_1 (F := FC) (m1 := fO (eRd 1)) (γ := [.io d, .fz (rowD r), .fz (rowD lot), .own (.lst B), .un]) rfl hC
  have x3 : eCall bTuple (aCons (fO (eCallN 1 FC (aCons (fO (eRd 1)) aNil))) aNil) [.io d, .fz (rowD r), .fz (rowD lot), .own (.lst B), .un] = .ok (.fz (rowD cs)) [.io d, .fz (rowD r), .fz (rowD lot), .own (.lst B), .un] := by
    generalize eCallN 1 FC (aCons (fO (eRd 1)) aNil) = m at c3 ⊢
    simp only [fnB, sSeq, sNx, sIf, sRet, sRetN, sSet, sSetIx, sExpr, Out.toS, Out.bind, Out.bindN, eOp, eCall, aCons, aNil, look, looks, slD, fO, eRd, eMv, oSl, eC, ofB, BR.out, nxO, stG, R.sl, Sl.isIo, eAnd, eOr, eNot, bAnd, bOr, bNot, toT, eTup, eLst, dsOf, fI, fIc, Sl.lst, Sl.putL, ioOut, List.replicate, List.cons_append, List.nil_append, List.getElem?_cons_zero, List.getElem?_cons_succ, List.set_cons_zero, List.set_cons_succ, eCallN, mkArgs, mkArg, mkSl, disA, slIn, putArgs, reSl, eChain, eIf, eNeg, c3, bTuple]
  have p3 := app_ok (aC (oO x3) aN) (show B.length ≤ 9000 by omega)
  generalize hD : B ++ [rowD cs] = C at p3
  have lC : C.length = 16 := by rw [← hD]; simp [lB]
  have okC : ∀ v ∈ C, okV v = true := by
    intro v hv
    rw [← hD, ← hB, ← hA] at hv
    simp only [List.mem_append, List.mem_singleton] at hv
    rcases hv with ((hv | rfl) | rfl) | rfl
    · exact first_ok (by omega) v hv
    · have e : rgD 0 ((r.length : Int) - 0).toNat = intD ((List.range ((r.length : Int) - 0).toNat).map fun (k : Nat) => (0 + (k : Nat) : Int)) := by rw [rgD_map, intD_map, List.map_map]; rfl
      rw [e]
      exact okV_row _ (by simp; omega)
    · rfl
    · exact okV_row _ (by omega)
  obtain ⟨γ', e, vs, t, rfl, ht, hlen, hok⟩ := loopS_cnt (f := gNm 4) (b := sSeq (sSet 3 (eOp fAdd (oSl 3) (fO (eLst (aCons (fO (eTup (aCons (fO (eRd 4)) aNil))) (aCons (fO (eOp fAdd (oSl 2) (fO (eTup (aCons (fO (eRd 4)) aNil))))) (aCons (fO (eCall bTuple (aCons (fO (eSortSet (aCons (fO (eOp fAdd (oSl 2) (fO (eTup (aCons (fO (eRd 4)) aNil))))) aNil))) aNil))) aNil))))))) sNx)
    (fun k : Nat => D.int (0 + (k : Nat))) (fun k γ => ∃ vs t, γ = [.io d, .fz (rowD r), .fz (rowD lot), .own (.lst vs), t] ∧ t.isIo = false ∧ vs.length = 16 + 3 * k ∧ ∀ v ∈ vs, okV v = true) 6 (List.range r.length) 0 [.io d, .fz (rowD r), .fz (rowD lot), .own (.lst C), .un] ⟨C, .un, rfl, rfl, by omega, okC⟩ (by rw [List.length_range]; omega)
    (fun k x γ hx hk hJ => by
      obtain ⟨vs, t, rfl, ht, hlen, hok⟩ := hJ
      have q := near_turn (r := r) (lot := lot) (d := d) (vs := vs) (i := 0 + (x : Int)) (t := t) (by omega) (by omega)
      refine ⟨[.io d, .fz (rowD r), .fz (rowD lot), .own (.lst vs), .fz (.int (0 + (x : Int)))], _, nonio_set (t := t) rfl ht, q, _, _, rfl, rfl, by simp; omega, fun v hv => ?_⟩
      rcases List.mem_append.mp hv with hv | hv
      · exact hok v hv
      · simp only [List.mem_cons, List.not_mem_nil, or_false] at hv
        rcases hv with rfl | rfl | rfl
        · exact okV_row _ (by simp)
        · exact okV_row _ (by simp; omega)
        · refine okV_row _ ?_
          rw [show (setL (lot ++ [0 + (x : Int)])).length = (ndup (lot ++ [0 + (x : Int)])).length from (srt_perm _).length_eq]
          have : ∀ xs : List Int, (ndup xs).length ≤ xs.length := fun xs => by
            induction xs with
            | nil => simp [ndup]
            | cons x xs ih =>
              unfold ndup
              split
              · simp; omega
              · simp; omega
          have := this (lot ++ [0 + (x : Int)])
          simp at this ⊢
          omega)
  have p4 : sFor (mRng1 (aCons (fO (eCall bLen (aCons (oSl 1) aNil))) aNil)) (gNm 4) (sSeq (sSet 3 (eOp fAdd (oSl 3) (fO (eLst (aCons (fO (eTup (aCons (fO (eRd 4)) aNil))) (aCons (fO (eOp fAdd (oSl 2) (fO (eTup (aCons (fO (eRd 4)) aNil))))) (aCons (fO (eCall bTuple (aCons (fO (eSortSet (aCons (fO (eOp fAdd (oSl 2) (fO (eTup (aCons (fO (eRd 4)) aNil))))) aNil))) aNil))) aNil))))))) sNx) [.io d, .fz (rowD r), .fz (rowD lot), .own (.lst C), .un] = .nx [.io d, .fz (rowD r), .fz (rowD lot), .own (.lst vs), t] := by
    unfold sFor
    rw [rng1_ok (as := [.d (.int (r.length : Int))]) (aC (oO (len (.io d) (.own (.lst C)) .un)) aN) rfl rfl (by omega)]
    exact e
  refine ⟨vs, ?_, hok⟩
  refine (fnB_rt (γ := [.io d, .fz (rowD r), .fz (rowD lot), .un, t]) (r := .own (.lst vs)) ?_).trans rfl
  show sSeq _ _ [.io d, .fz (rowD r), .fz (rowD lot), .un, .un] = _
  rw [seq_nx (first_list (r := r) (d := d) (by omega)), seq_nx p1, seq_nx p2, seq_nx p3, seq_nx p4]
  exact seq_rt (ret_ok rfl)
end
end T

-- text V16
set_option Elab.async false
set_option linter.all false
set_option maxRecDepth 100000
set_option maxHeartbeats 4000000
namespace T
open PySem L2
theorem sIx_nat (n k d : Nat) (h : k ≤ n) : HT.sIx n d (some ((k : Nat) : Int)) = k := by
  rw [HT.sIx_nat]; omega
def climb (r : List Int) (i : Nat) : Prop := at0 r i = at0 r (i - 1) + 1
instance (r : List Int) (i : Nat) : Decidable (climb r i) := inferInstanceAs (Decidable (_ = _))
section
variable {r es : List Int} {s0 s3 s4 s5 s10 s11 s12 : Sl} {lf od : List D}
abbrev gR (s0 : Sl) (n : Int) (r : List Int) (s3 s4 s5 : Sl) (lf od : List D) (a t : Sl) (s10 s11 s12 : Sl) : Gam := [s0, .fz (.int n), .fz (rowD r), s3, s4, s5, .own (.lst lf), .own (.lst od), a, t, s10, s11, s12]
abbrev wC : Gam → Out Bool := (bAnd (toT (eOp fLt (oSl 9) (oSl 1))) (toT (eOp (fEq false) (fO (eOp fIx (oSl 2) (oSl 9))) (fO (eOp fAdd (fO (eOp fIx (oSl 2) (fO (eOp fSub (oSl 9) (fO (eC (.int 1))))))) (fO (eC (.int 1))))))))
abbrev wB : Gam → OutS := (sSeq (sSet 9 (eOp fAdd (oSl 9) (fO (eC (.int 1))))) sNx)
theorem inner_go (a : Sl) : ∀ (fuel t : Nat), 1 ≤ t → t ≤ r.length → r.length - t < fuel → ∃ t', sWhile wC wB fuel (gR s0 (r.length : Int) r s3 s4 s5 lf od a (.fz (.int (t : Nat))) s10 s11 s12) = .nx (gR s0 (r.length : Int) r s3 s4 s5 lf od a (.fz (.int (t' : Nat))) s10 s11 s12) ∧ t ≤ t' ∧ t' ≤ r.length ∧ (∀ i, t ≤ i → i < t' → climb r i) ∧ (t' = r.length ∨ ¬ climb r t')
  | 0, t, _, _, h => absurd h (Nat.not_lt_zero _)
  | fuel + 1, t, h1, h2, h3 => by
    by_cases hlt : t < r.length
    · have c1 : decide ((t : Int) < (r.length : Int)) = true := decide_eq_true (by omega)
      have a1 := fIx_at (r := r) (i := t) rfl hlt
      have a2 := fIx_at (r := r) (i := t - 1) (x := (t : Int) - 1) (by omega) (by omega)
      have q := fEq_int false (at0 r t) (at0 r (t - 1) + 1)
      simp only [Bool.false_eq_true, if_false] at q
      by_cases hc : climb r t
      · have e4 : ((t + 1 : Nat) : Int) = (t : Int) + 1 := by push_cast; rfl
        obtain ⟨t', e, l1, l2, l3, l4⟩ := inner_go a fuel (t + 1) (by omega) (by omega) (by omega)
        refine ⟨t', ?_, by omega, l2, fun i hi hi2 => ?_, l4⟩
        · have hc' : decide (at0 r t = at0 r (t - 1) + 1) = true := decide_eq_true hc
          rw [hc'] at q
          rw [e4] at e
          generalize (t : Int) = x at c1 a1 a2 e ⊢
          generalize (r.length : Int) = n at c1 e ⊢
          unfold sWhile
          simp only [fnB, sSeq, sNx, sIf, sRet, sRetN, sSet, sSetIx, sExpr, Out.toS, Out.bind, Out.bindN, eOp, eCall, aCons, aNil, look, looks, slD, fO, eRd, eMv, oSl, eC, ofB, BR.out, nxO, stG, R.sl, Sl.isIo, eAnd, eOr, eNot, bAnd, bOr, bNot, toT, eTup, eLst, dsOf, fI, fIc, Sl.lst, Sl.putL, ioOut, List.replicate, List.cons_append, List.nil_append, List.getElem?_cons_zero, List.getElem?_cons_succ, List.set_cons_zero, List.set_cons_succ, eCallN, mkArgs, mkArg, mkSl, disA, slIn, putArgs, reSl, eChain, eIf, eNeg, fLt, fSub, fAdd, c1, a1, a2, q, if_true]
          exact e
        · by_cases hi3 : i = t
          · subst hi3; exact hc
          · exact l3 i (by omega) hi2
      · refine ⟨t, ?_, Nat.le_refl _, h2, fun i hi hi2 => by omega, .inr hc⟩
        have hc' : decide (at0 r t = at0 r (t - 1) + 1) = false := decide_eq_false hc
        rw [hc'] at q
        generalize (t : Int) = x at c1 a1 a2 ⊢
        generalize (r.length : Int) = n at c1 ⊢
        unfold sWhile
        simp only [fnB, sSeq, sNx, sIf, sRet, sRetN, sSet, sSetIx, sExpr, Out.toS, Out.bind, Out.bindN, eOp, eCall, aCons, aNil, look, looks, slD, fO, eRd, eMv, oSl, eC, ofB, BR.out, nxO, stG, R.sl, Sl.isIo, eAnd, eOr, eNot, bAnd, bOr, bNot, toT, eTup, eLst, dsOf, fI, fIc, Sl.lst, Sl.putL, ioOut, List.replicate, List.cons_append, List.nil_append, List.getElem?_cons_zero, List.getElem?_cons_succ, List.set_cons_zero, List.set_cons_succ, eCallN, mkArgs, mkArg, mkSl, disA, slIn, putArgs, reSl, eChain, eIf, eNeg, fLt, fSub, fAdd, c1, a1, a2, q, Bool.false_eq_true, if_false]
    · have c1 : decide ((t : Int) < (r.length : Int)) = false := decide_eq_false (by omega)
      refine ⟨t, ?_, Nat.le_refl _, h2, fun i hi hi2 => by omega, .inl (by omega)⟩
      generalize (t : Int) = x at c1 ⊢
      generalize (r.length : Int) = n at c1 ⊢
      unfold sWhile
      simp only [fnB, sSeq, sNx, sIf, sRet, sRetN, sSet, sSetIx, sExpr, Out.toS, Out.bind, Out.bindN, eOp, eCall, aCons, aNil, look, looks, slD, fO, eRd, eMv, oSl, eC, ofB, BR.out, nxO, stG, R.sl, Sl.isIo, eAnd, eOr, eNot, bAnd, bOr, bNot, toT, eTup, eLst, dsOf, fI, fIc, Sl.lst, Sl.putL, ioOut, List.replicate, List.cons_append, List.nil_append, List.getElem?_cons_zero, List.getElem?_cons_succ, List.set_cons_zero, List.set_cons_succ, eCallN, mkArgs, mkArg, mkSl, disA, slIn, putArgs, reSl, eChain, eIf, eNeg, fLt, c1, Bool.false_eq_true, if_false]

abbrev oB (fu : Nat) : Gam → OutS := (sSeq (sSet 9 (eOp fAdd (oSl 8) (fO (eC (.int 1))))) (sSeq (fun γ => sWhile wC wB fu γ) (sSeq (sSet 7 (eOp fAdd (oSl 7) (fO (eCall bSorted (aCons (fO (eSl (oSl 6) (pSome (oSl 8)) (pSome (oSl 9)))) aNil))))) (sSeq (sSet 8 (eMv 9)) sNx))))
theorem srt_len (xs : List Int) : (srt xs).length = xs.length := (srt_perm xs).length_eq
theorem cut_ok (es : List Int) (a t : Nat) (h1 : a ≤ t) (h2 : t ≤ es.length) : cutD (intD es) (some (a : Int)) (some (t : Int)) = intD ((es.drop a).take (t - a)) := by
  unfold cutD
  rw [intD_len, sIx_nat es.length a 0 (by omega), sIx_nat es.length t es.length h2, intD_map, intD_map, ← List.map_drop, ← List.map_take]
theorem turn_ok (fu a : Nat) (ord : List Int) (ha : a < r.length) (hes : es.length = r.length) (hn : r.length ≤ 500) (hord : ord.length ≤ 500) (hfu : r.length < fu) (t0 : Sl) (ht0 : t0.isIo = false) :
    ∃ t' : Nat, oB fu (gR s0 (r.length : Int) r s3 s4 s5 (intD es) (intD ord) (.fz (.int (a : Nat))) t0 s10 s11 s12) = .nx (gR s0 (r.length : Int) r s3 s4 s5 (intD es) (intD (ord ++ srt ((es.drop a).take (t' - a)))) (.fz (.int (t' : Nat))) (.fz (.int (t' : Nat))) s10 s11 s12)
      ∧ a + 1 ≤ t' ∧ t' ≤ r.length ∧ (∀ i, a + 1 ≤ i → i < t' → climb r i) ∧ (t' = r.length ∨ ¬ climb r t') := by
  obtain ⟨t', e, l1, l2, l3, l4⟩ := inner_go (r := r) (s0 := s0) (s3 := s3) (s4 := s4) (s5 := s5) (s10 := s10) (s11 := s11) (s12 := s12) (lf := intD es) (od := intD ord) (.fz (.int (a : Nat))) fu (a + 1) (by omega) (by omega) (by omega)
  refine ⟨t', ?_, l1, l2, l3, l4⟩
  have e4 : ((a + 1 : Nat) : Int) = (a : Int) + 1 := by push_cast; rfl
  rw [e4] at e
  have n1 : sSet 9 (eOp fAdd (oSl 8) (fO (eC (.int 1)))) (gR s0 (r.length : Int) r s3 s4 s5 (intD es) (intD ord) (.fz (.int (a : Nat))) t0 s10 s11 s12) = .nx (gR s0 (r.length : Int) r s3 s4 s5 (intD es) (intD ord) (.fz (.int (a : Nat))) (.fz (.int ((a : Int) + 1))) s10 s11 s12) :=
    set_ok (γ1 := gR s0 (r.length : Int) r s3 s4 s5 (intD es) (intD ord) (.fz (.int (a : Nat))) t0 s10 s11 s12) (r := .fz (.int ((a : Int) + 1))) rfl (nonio_set (t := t0) rfl ht0)
  have hcut := cut_ok es a t' (by omega) (by omega)
  generalize hseg : (es.drop a).take (t' - a) = seg at hcut
  have lseg : seg.length ≤ 500 := by rw [← hseg]; simp; omega
  have sl : eSl (oSl 6) (pSome (oSl 8)) (pSome (oSl 9)) (gR s0 (r.length : Int) r s3 s4 s5 (intD es) (intD ord) (.fz (.int (a : Nat))) (.fz (.int (t' : Nat))) s10 s11 s12) = .ok (.own (.lst (intD seg))) (gR s0 (r.length : Int) r s3 s4 s5 (intD es) (intD ord) (.fz (.int (a : Nat))) (.fz (.int (t' : Nat))) s10 s11 s12) := by
    rw [← hcut]
    rfl
  have bs : bSorted [.lst (intD seg)] = some (.newL (intD (srt seg))) := by
    unfold bSorted
    dsimp only
    rw [intsOf_intD]
  have so : eCall bSorted (aCons (fO (eSl (oSl 6) (pSome (oSl 8)) (pSome (oSl 9)))) aNil) (gR s0 (r.length : Int) r s3 s4 s5 (intD es) (intD ord) (.fz (.int (a : Nat))) (.fz (.int (t' : Nat))) s10 s11 s12) = .ok (.own (.lst (intD (srt seg)))) (gR s0 (r.length : Int) r s3 s4 s5 (intD es) (intD ord) (.fz (.int (a : Nat))) (.fz (.int (t' : Nat))) s10 s11 s12) := by
    generalize eSl (oSl 6) (pSome (oSl 8)) (pSome (oSl 9)) = m at sl ⊢
    simp only [fnB, sSeq, sNx, sIf, sRet, sRetN, sSet, sSetIx, sExpr, Out.toS, Out.bind, Out.bindN, eOp, eCall, aCons, aNil, look, looks, slD, fO, eRd, eMv, oSl, eC, ofB, BR.out, nxO, stG, R.sl, Sl.isIo, eAnd, eOr, eNot, bAnd, bOr, bNot, toT, eTup, eLst, dsOf, fI, fIc, Sl.lst, Sl.putL, ioOut, List.replicate, List.cons_append, List.nil_append, List.getElem?_cons_zero, List.getElem?_cons_succ, List.set_cons_zero, List.set_cons_succ, eCallN, mkArgs, mkArg, mkSl, disA, slIn, putArgs, reSl, eChain, eIf, eNeg, sl, bs]
  have fa : fAdd (.lst (intD ord)) (.lst (intD (srt seg))) = some (.newL (intD (ord ++ srt seg))) := by
    unfold fAdd
    dsimp only
    rw [fit_of (by rw [intD_len, intD_len, srt_len]; omega), intD_app]
  have n3 : sSet 7 (eOp fAdd (oSl 7) (fO (eCall bSorted (aCons (fO (eSl (oSl 6) (pSome (oSl 8)) (pSome (oSl 9)))) aNil)))) (gR s0 (r.length : Int) r s3 s4 s5 (intD es) (intD ord) (.fz (.int (a : Nat))) (.fz (.int (t' : Nat))) s10 s11 s12) = .nx (gR s0 (r.length : Int) r s3 s4 s5 (intD es) (intD (ord ++ srt seg)) (.fz (.int (a : Nat))) (.fz (.int (t' : Nat))) s10 s11 s12) := by
    refine set_ok (γ1 := gR s0 (r.length : Int) r s3 s4 s5 (intD es) (intD ord) (.fz (.int (a : Nat))) (.fz (.int (t' : Nat))) s10 s11 s12) (r := .own (.lst (intD (ord ++ srt seg)))) ?_ rfl
    generalize eCall bSorted (aCons (fO (eSl (oSl 6) (pSome (oSl 8)) (pSome (oSl 9)))) aNil) = m at so ⊢
    simp only [gR] at so
    simp only [fnB, sSeq, sNx, sIf, sRet, sRetN, sSet, sSetIx, sExpr, Out.toS, Out.bind, Out.bindN, eOp, eCall, aCons, aNil, look, looks, slD, fO, eRd, eMv, oSl, eC, ofB, BR.out, nxO, stG, R.sl, Sl.isIo, eAnd, eOr, eNot, bAnd, bOr, bNot, toT, eTup, eLst, dsOf, fI, fIc, Sl.lst, Sl.putL, ioOut, List.replicate, List.cons_append, List.nil_append, List.getElem?_cons_zero, List.getElem?_cons_succ, List.set_cons_zero, List.set_cons_succ, eCallN, mkArgs, mkArg, mkSl, disA, slIn, putArgs, reSl, eChain, eIf, eNeg, so, fa]
  have e' : (fun γ => sWhile wC wB fu γ) (gR s0 (r.length : Int) r s3 s4 s5 (intD es) (intD ord) (.fz (.int (a : Nat))) (.fz (.int ((a : Int) + 1))) s10 s11 s12) = .nx (gR s0 (r.length : Int) r s3 s4 s5 (intD es) (intD ord) (.fz (.int (a : Nat))) (.fz (.int (t' : Nat))) s10 s11 s12) := e
  show sSeq _ (sSeq _ (sSeq _ (sSeq _ _))) _ = _
  rw [seq_nx n1, seq_nx e', seq_nx n3]
  have n4 : sSet 8 (eMv 9) (gR s0 (r.length : Int) r s3 s4 s5 (intD es) (intD (ord ++ srt seg)) (.fz (.int (a : Nat))) (.fz (.int (t' : Nat))) s10 s11 s12) = .nx (gR s0 (r.length : Int) r s3 s4 s5 (intD es) (intD (ord ++ srt seg)) (.fz (.int (t' : Nat))) (.fz (.int (t' : Nat))) s10 s11 s12) :=
    set_ok (γ1 := gR s0 (r.length : Int) r s3 s4 s5 (intD es) (intD (ord ++ srt seg)) (.fz (.int (a : Nat))) (.fz (.int (t' : Nat))) s10 s11 s12) (r := .fz (.int (t' : Nat))) rfl rfl
  rw [seq_nx n4]
  rfl
/-- the labels so far -/
structure So (r es : List Int) (a : Nat) (ord : List Int) : Prop where
  le : a ≤ r.length
  len : ord.length = a
  pm : ord.Perm (es.take a)
  up : ∀ i : Nat, 1 ≤ i → i < a → climb r i → at0 ord (i - 1) < at0 ord i
  cut : a = 0 ∨ a = r.length ∨ ¬ climb r a
theorem at0_app1 {a b : List Int} {i : Nat} (h : i < a.length) : at0 (a ++ b) i = at0 a i := by
  unfold at0
  rw [List.getD_eq_getElem?_getD, List.getD_eq_getElem?_getD, List.getElem?_append_left h]
theorem at0_app2 {a b : List Int} {i : Nat} (h : a.length ≤ i) : at0 (a ++ b) i = at0 b (i - a.length) := by
  unfold at0
  rw [List.getD_eq_getElem?_getD, List.getD_eq_getElem?_getD, List.getElem?_append_right h]
theorem srt_up {l : List Int} (nd : l.Nodup) {i : Nat} (h1 : 1 ≤ i) (h2 : i < l.length) : at0 (srt l) (i - 1) < at0 (srt l) i := by
  have hl := srt_len l
  have nd2 : (srt l).Nodup := (srt_perm l).nodup_iff.mpr nd
  have a := List.pairwise_iff_getElem.mp (srt_sorted l) (i - 1) i (by omega) (by omega) (by omega)
  have b := List.pairwise_iff_getElem.mp nd2 (i - 1) i (by omega) (by omega) (by omega)
  unfold at0
  rw [List.getD_eq_getElem?_getD, List.getD_eq_getElem?_getD, List.getElem?_eq_getElem (by omega), List.getElem?_eq_getElem (by omega)]
  simp only [Option.getD_some]
  omega
theorem so_next {a t' : Nat} {ord : List Int} (S : So r es a ord) (nd : es.Nodup) (hes : es.length = r.length) (ha : a < r.length) (l1 : a + 1 ≤ t') (l2 : t' ≤ r.length) (l4 : t' = r.length ∨ ¬ climb r t') : So r es t' (ord ++ srt ((es.drop a).take (t' - a))) := by
  have lseg : ((es.drop a).take (t' - a)).length = t' - a := by simp; omega
  have ndseg : ((es.drop a).take (t' - a)).Nodup := (nd.sublist ((List.take_sublist _ _).trans (List.drop_sublist _ _)))
  have hlen := S.len
  refine ⟨l2, by rw [List.length_append, srt_len, lseg]; omega, ?_, fun i h1 h2 hc => ?_, .inr l4⟩
  · have e : es.take t' = es.take a ++ (es.drop a).take (t' - a) := by
      rw [← List.take_add, show a + (t' - a) = t' by omega]
    rw [e]
    exact S.pm.append (srt_perm _)
  · by_cases h3 : i < a
    · rw [at0_app1 (by omega), at0_app1 (by omega)]
      exact S.up i h1 h3 hc
    · by_cases h4 : i = a
      · subst h4
        rcases S.cut with h | h | h
        · omega
        · omega
        · exact absurd hc h
      · rw [at0_app2 (by omega), at0_app2 (by omega), hlen, show i - 1 - a = (i - a) - 1 by omega]
        exact srt_up ndseg (by omega) (by omega)
theorem outer_go (fu : Nat) (nd : es.Nodup) (hes : es.length = r.length) (hn : r.length ≤ 500) (hfu : r.length < fu) : ∀ (fuel a : Nat) (ord : List Int) (t0 : Sl), t0.isIo = false → So r es a ord → r.length - a < fuel →
    ∃ ord' t1, sWhile (toT (eOp fLt (oSl 8) (oSl 1))) (oB fu) fuel (gR s0 (r.length : Int) r s3 s4 s5 (intD es) (intD ord) (.fz (.int (a : Nat))) t0 s10 s11 s12) = .nx (gR s0 (r.length : Int) r s3 s4 s5 (intD es) (intD ord') (.fz (.int (r.length : Int))) t1 s10 s11 s12) ∧ t1.isIo = false ∧ So r es r.length ord'
  | 0, a, _, _, _, _, h => absurd h (Nat.not_lt_zero _)
  | fuel + 1, a, ord, t0, ht0, S, h => by
    have hle := S.le
    have hlen := S.len
    by_cases hlt : a < r.length
    · obtain ⟨t', e, l1, l2, l3, l4⟩ := turn_ok (r := r) (es := es) (s0 := s0) (s3 := s3) (s4 := s4) (s5 := s5) (s10 := s10) (s11 := s11) (s12 := s12) fu a ord hlt hes hn (by omega) hfu t0 ht0
      obtain ⟨ord', t1, e2, h1, h2⟩ := outer_go fu nd hes hn hfu fuel t' _ (.fz (.int (t' : Nat))) rfl (so_next S nd hes hlt l1 l2 l4) (by omega)
      refine ⟨ord', t1, ?_, h1, h2⟩
      have c1 : decide ((a : Int) < (r.length : Int)) = true := decide_eq_true (by omega)
      rw [← e2]
      generalize hb : oB fu = ob at e ⊢
      generalize (a : Int) = x at c1 e ⊢
      generalize (r.length : Int) = n at c1 e ⊢
      conv => lhs; unfold sWhile
      simp only [fnB, sSeq, sNx, sIf, sRet, sRetN, sSet, sSetIx, sExpr, Out.toS, Out.bind, Out.bindN, eOp, eCall, aCons, aNil, look, looks, slD, fO, eRd, eMv, oSl, eC, ofB, BR.out, nxO, stG, R.sl, Sl.isIo, eAnd, eOr, eNot, bAnd, bOr, bNot, toT, eTup, eLst, dsOf, fI, fIc, Sl.lst, Sl.putL, ioOut, List.replicate, List.cons_append, List.nil_append, List.getElem?_cons_zero, List.getElem?_cons_succ, List.set_cons_zero, List.set_cons_succ, eCallN, mkArgs, mkArg, mkSl, disA, slIn, putArgs, reSl, eChain, eIf, eNeg, fLt, c1, if_true, e]
    · have ea : a = r.length := by omega
      subst ea
      refine ⟨ord, t0, ?_, ht0, S⟩
      have c1 : decide ((r.length : Int) < (r.length : Int)) = false := decide_eq_false (by omega)
      generalize (r.length : Int) = n at c1 ⊢
      unfold sWhile
      simp only [fnB, sSeq, sNx, sIf, sRet, sRetN, sSet, sSetIx, sExpr, Out.toS, Out.bind, Out.bindN, eOp, eCall, aCons, aNil, look, looks, slD, fO, eRd, eMv, oSl, eC, ofB, BR.out, nxO, stG, R.sl, Sl.isIo, eAnd, eOr, eNot, bAnd, bOr, bNot, toT, eTup, eLst, dsOf, fI, fIc, Sl.lst, Sl.putL, ioOut, List.replicate, List.cons_append, List.nil_append, List.getElem?_cons_zero, List.getElem?_cons_succ, List.set_cons_zero, List.set_cons_succ, eCallN, mkArgs, mkArg, mkSl, disA, slIn, putArgs, reSl, eChain, eIf, eNeg, fLt, c1, Bool.false_eq_true, if_false]
end
end T

-- text V17
set_option Elab.async false
set_option linter.all false
set_option maxRecDepth 100000
set_option maxHeartbeats 4000000
namespace T
open PySem L2
theorem callIo_2 {F : Gam → Out R} {m : Gam → Out Ar} {rest rest' : Gam} {d d1 d2 x : D} {y : R} (hm : m (.io d :: rest) = .ok (.d x) (.io d1 :: rest')) (h : F [.io d1, .fz x] = .ok y [.io d2, .fz x]) : eCallN 2 F (aCons (oSl 0) (aCons m aNil)) (.io d :: rest) = .ok y (.io d2 :: rest') := by
  simp only [eCallN, aCons, aNil, Out.bind, oSl, List.getElem?_cons_zero, hm, disA, slIn, mkArgs, mkArg, mkSl, Nat.beq, List.length_cons, List.length_nil, Bool.not_false, Bool.and_self, h, putArgs, reSl, List.set_cons_zero]
theorem callIo_3 {F : Gam → Out R} {m1 m2 : Gam → Out Ar} {rest : Gam} {d d2 x1 x2 : D} {y : R} (h1 : m1 (.io d :: rest) = .ok (.d x1) (.io d :: rest)) (h2 : m2 (.io d :: rest) = .ok (.d x2) (.io d :: rest)) (h : F [.io d, .fz x1, .fz x2] = .ok y [.io d2, .fz x1, .fz x2]) : eCallN 3 F (aCons (oSl 0) (aCons m1 (aCons m2 aNil))) (.io d :: rest) = .ok y (.io d2 :: rest) := by
  simp only [eCallN, aCons, aNil, Out.bind, oSl, List.getElem?_cons_zero, h1, h2, disA, slIn, mkArgs, mkArg, mkSl, Nat.beq, List.length_cons, List.length_nil, Bool.not_false, Bool.and_self, h, putArgs, reSl, List.set_cons_zero]
theorem oW2 {m : Gam → Out R} {γ γ1 : Gam} {d : D} (h : m γ = .ok (.own d) γ1) : fO m γ = .ok (.d d) γ1 := by simp only [fO, h]
theorem lstRg_ok {m1 m2 : Gam → Out Ar} {γ : Gam} {a b : Ar} {i j : Int} (h1 : m1 γ = .ok a γ) (h2 : m2 γ = .ok b γ) (l1 : look γ a = some (.int i)) (l2 : look γ b = some (.int j)) (hr : rgB i j = true) : eLstRg2 m1 m2 γ = .ok (.own (.lst (rgD i (j - i).toNat))) γ := by
  simp only [eLstRg2, Out.bind, h1, h2, l1, l2, hr]
theorem rgB_of2 {i j : Int} (h0 : 0 ≤ i) (h1 : i ≤ 1000) (h2 : 0 ≤ j) (h3 : j ≤ 1000) : rgB i j = true := by
  unfold rgB
  rw [inRg_of (by omega) h1, inRg_of (by omega) h3, Nat.ble_eq_true_of_le (show (j - i).toNat ≤ 16777216 by omega)]
  rfl
def lotSum (r lot : List Int) : Int := (lot.map fun x => at0 r x.toNat).sum
/-- what is known of the defs that the law's look calls -/
structure RH (FRo F1 FA FCl FRi FLo FN FM FI FX FP FK : Gam → Out R) : Prop where
  ro : Rolls FRo
  one : ∀ (m : Int) (d : D) (ds : List D), Dice m d → m < 999 → ds ≠ [] → ds.length ≤ 1000 → ∃ x d', F1 [.io d, .fz (.lst ds)] = .ok (.fz x) [.io d', .fz (.lst ds)] ∧ x ∈ ds ∧ Dice (m + 1) d'
  mix : ∀ (m : Int) (d : D) (l : List Int), Dice m d → m < 900 → l.length < 8 → ∃ d' es, FX [.io d, .fz (.lst (intD l))] = .ok (.own (.lst (intD es))) [.io d', .fz (.lst (intD l))] ∧ es.Perm l ∧ Dice (m + 8) d'
  area : ∀ n : Nat, 1 ≤ n → n ≤ 6 → FA [.fz (.int (n : Nat))] = .ok (.own (.lst ((rowsL n).map rowD))) [.fz (.int (n : Nat))] ∧ rowsL n ≠ [] ∧ (rowsL n).length ≤ 1000
  row : ∀ (n : Nat) (r : List Int), 1 ≤ n → n ≤ 6 → r ∈ rowsL n → r.length = n ∧ (climbsL r).length ≤ 5 ∧ FCl [.fz (rowD r)] = .ok (.own (.lst (intD (climbsL r)))) [.fz (rowD r)] ∧ FRi [.fz (rowD r)] = .ok (.fz (rowD (climbsL r))) [.fz (rowD r)]
    ∧ (∀ m : Nat, m ≤ (climbsL r).length → FLo [.fz (.lst (intD (climbsL r))), .fz (.int (m : Nat))] = .ok (.own (.lst ((lotsL (climbsL r) m).map rowD))) [.fz (.lst (intD (climbsL r))), .fz (.int (m : Nat))] ∧ lotsL (climbsL r) m ≠ [] ∧ (lotsL (climbsL r) m).length ≤ 1000)
    ∧ (∀ (m : Nat) (lot : List Int), m ≤ (climbsL r).length → lot ∈ lotsL (climbsL r) m → lot.length ≤ 5 ∧ (∀ x ∈ lot, 0 ≤ x ∧ x < (r.length : Int)) ∧ (∀ d, ∃ vs, FN [.io d, .fz (rowD r), .fz (rowD lot)] = .ok (.own (.lst vs)) [.io d, .fz (rowD r), .fz (rowD lot)] ∧ ∀ v ∈ vs, okV v = true)
      ∧ ∀ o, Lab r o → ∃ c, FP [.fz (rowD r), .fz (rowD o)] = .ok (.fz (.tup [.int r.sum, .int c])) [.fz (rowD r), .fz (rowD o)] ∧ FK [.fz (rowD r), .fz (rowD lot), .fz (rowD o)] = .ok (.fz (.tup [.int (r.sum - lotSum r lot), .int c])) [.fz (rowD r), .fz (rowD lot), .fz (rowD o)])
    ∧ ∀ v, okV v = true → ∃ b, FM [.fz (rowD r), .fz v] = .ok (.fz (.bl b)) [.fz (rowD r), .fz v] ∧ FI [.fz (rowD r), .fz v] = .ok (.fz (.bl b)) [.fz (rowD r), .fz v]
theorem fEq_str (b : Bool) : fEq true (.str (bTx b)) (.str (bTx b)) = some (.val (.bl false)) := by
  have e1 : shD 12 (.str (bTx b)) = true := by cases b <;> decide +kernel
  unfold fEq
  rw [e1]
  simp only [Bool.and_self, eqd, if_true]
  rw [show (bTx b == bTx b) = true from beq_self_eq_true _]
  rfl
def bodyR (FRo F1 FA FCl FRi FLo FN FM FI FX FP FK : Gam → Out R) : Gam → OutS := (sSeq (sSet 1 (eOp fAdd (fO (eC (.int 1))) (fO (eCallN 2 FRo (aCons (oSl 0) (aCons (fO (eC (.int 6))) aNil)))))) (sSeq (sSet 2 (eCallN 2 F1 (aCons (oSl 0) (aCons (fO (eCallN 1 FA (aCons (fO (eRd 1)) aNil))) aNil)))) (sSeq (sSet 3 (eCallN 1 FCl (aCons (fO (eRd 2)) aNil))) (sSeq (sIf (toT (eOp (fEq true) (fO (eCallN 1 FRi (aCons (fO (eRd 2)) aNil))) (fO (eCall bTuple (aCons (oSl 3) aNil))))) (sSeq (sRet (eC (.bl false))) sNx) sNx) (sSeq (sSet 4 (eCallN 2 F1 (aCons (oSl 0) (aCons (fO (eCallN 2 FLo (aCons (fO (eRd 3)) (aCons (fO (eCallN 2 FRo (aCons (oSl 0) (aCons (fO (eOp fAdd (fO (eCall bLen (aCons (oSl 3) aNil))) (fO (eC (.int 1))))) aNil)))) aNil)))) aNil)))) (sSeq (sFor (mIter (fO (eCallN 3 FN (aCons (oSl 0) (aCons (fO (eRd 2)) (aCons (fO (eRd 4)) aNil)))))) (gNm 5) (sSeq (sIf (toT (eOp (fEq true) (fO (eCall bRepr (aCons (fO (eCallN 2 FM (aCons (fO (eRd 2)) (aCons (fO (eRd 5)) aNil)))) aNil))) (fO (eCall bRepr (aCons (fO (eCallN 2 FI (aCons (fO (eRd 2)) (aCons (fO (eRd 5)) aNil)))) aNil))))) (sSeq (sRet (eC (.bl false))) sNx) sNx) sNx)) (sSeq (sPar3 6 7 8 (eCallN 2 FX (aCons (oSl 0) (aCons (fO (eLstRg2 (fO (eC (.int 1))) (fO (eOp fAdd (oSl 1) (fO (eC (.int 1))))))) aNil))) (eLst aNil) (eC (.int 0))) (sSeq (fun γ => sWhile (toT (eOp fLt (oSl 8) (oSl 1))) (sSeq (sSet 9 (eOp fAdd (oSl 8) (fO (eC (.int 1))))) (sSeq (fun γ => sWhile (bAnd (toT (eOp fLt (oSl 9) (oSl 1))) (toT (eOp (fEq false) (fO (eOp fIx (oSl 2) (oSl 9))) (fO (eOp fAdd (fO (eOp fIx (oSl 2) (fO (eOp fSub (oSl 9) (fO (eC (.int 1))))))) (fO (eC (.int 1)))))))) (sSeq (sSet 9 (eOp fAdd (oSl 9) (fO (eC (.int 1))))) sNx) 8 γ) (sSeq (sSet 7 (eOp fAdd (oSl 7) (fO (eCall bSorted (aCons (fO (eSl (oSl 6) (pSome (oSl 8)) (pSome (oSl 9)))) aNil))))) (sSeq (sSet 8 (eMv 9)) sNx)))) 8 γ) (sSeq (sAsg (fO (eCallN 2 FP (aCons (fO (eRd 2)) (aCons (fO (eCall bTuple (aCons (oSl 7) aNil))) aNil)))) (gTp 2 (gsCons (gNm 10) (gsCons (gNm 11) gsNil)))) (sSeq (sRet (eOp (fEq false) (fO (eCallN 3 FK (aCons (fO (eRd 2)) (aCons (fO (eRd 4)) (aCons (fO (eCall bTuple (aCons (oSl 7) aNil))) aNil))))) (fO (eTup (aCons (fO (eOp fSub (oSl 10) (fO (eCall bSum (aCons (fO (eLc (mIter (fO (eRd 4))) [12] (gNm 12) mYes (fO (eOp fIx (oSl 2) (oSl 12))))) aNil))))) (aCons (fO (eRd 11)) aNil)))))) sNx))))))))))
section
variable {FRo F1 FA FCl FRi FLo FN FM FI FX FP FK : Gam → Out R}
theorem judge_turn {b : Bool} {s0 s1 : Sl} {r : List Int} {s3 s4 : Sl} {v : D} {rest : Gam} (h1 : FM [.fz (rowD r), .fz v] = .ok (.fz (.bl b)) [.fz (rowD r), .fz v]) (h2 : FI [.fz (rowD r), .fz v] = .ok (.fz (.bl b)) [.fz (rowD r), .fz v]) :
    sSeq (sIf (toT (eOp (fEq true) (fO (eCall bRepr (aCons (fO (eCallN 2 FM (aCons (fO (eRd 2)) (aCons (fO (eRd 5)) aNil)))) aNil))) (fO (eCall bRepr (aCons (fO (eCallN 2 FI (aCons (fO (eRd 2)) (aCons (fO (eRd 5)) aNil)))) aNil))))) (sSeq (sRet (eC (.bl false))) sNx) sNx) sNx (s0 :: s1 :: .fz (rowD r) :: s3 :: s4 :: .fz v :: rest) = .nx (s0 :: s1 :: .fz (rowD r) :: s3 :: s4 :: .fz v :: rest) := by
  have c1 := callN_2 (F := FM) (m1 := fO (eRd 2)) (m2 := fO (eRd 5)) (γ := (s0 :: s1 :: .fz (rowD r) :: s3 :: s4 :: .fz v :: rest)) rfl rfl h1
  have c2 := callN_2 (F := FI) (m1 := fO (eRd 2)) (m2 := fO (eRd 5)) (γ := (s0 :: s1 :: .fz (rowD r) :: s3 :: s4 :: .fz v :: rest)) rfl rfl h2
  have q := fEq_str b
  generalize eCallN 2 FM (aCons (fO (eRd 2)) (aCons (fO (eRd 5)) aNil)) = m1 at c1 ⊢
  generalize eCallN 2 FI (aCons (fO (eRd 2)) (aCons (fO (eRd 5)) aNil)) = m2 at c2 ⊢
  refine (seq_nx ((if_f (γ1 := (s0 :: s1 :: .fz (rowD r) :: s3 :: s4 :: .fz v :: rest)) ?_).trans rfl)).trans rfl
  simp only [fnB, sSeq, sNx, sIf, sRet, sRetN, sSet, sSetIx, sExpr, Out.toS, Out.bind, Out.bindN, eOp, eCall, aCons, aNil, look, looks, slD, fO, eRd, eMv, oSl, eC, ofB, BR.out, nxO, stG, R.sl, Sl.isIo, eAnd, eOr, eNot, bAnd, bOr, bNot, toT, eTup, eLst, dsOf, fI, fIc, Sl.lst, Sl.putL, ioOut, List.replicate, List.cons_append, List.nil_append, List.getElem?_cons_zero, List.getElem?_cons_succ, List.set_cons_zero, List.set_cons_succ, eCallN, mkArgs, mkArg, mkSl, disA, slIn, putArgs, reSl, eChain, eIf, eNeg, c1, c2, bRepr, q]
theorem right_gen (H : RH FRo F1 FA FCl FRi FLo FN FM FI FX FP FK) {m : Int} {d : D} (hd : Dice m d) (hm : m < 800) : ∃ d', fnB 12 (bodyR FRo F1 FA FCl FRi FLo FN FM FI FX FP FK) [.io d] = .ok (.fz (.bl true)) [.io d'] ∧ Dice (m + 20) d' := by
  obtain ⟨k, d1, e1, hd1, k0, k1⟩ := H.ro m d 6 hd (by omega) (by decide) (by decide)
  obtain ⟨n, hn⟩ : ∃ n : Nat, (1 + k) = (n : Int) := ⟨(1 + k).toNat, by omega⟩
  have n1 : sSet 1 (eOp fAdd (fO (eC (.int 1))) (fO (eCallN 2 FRo (aCons (oSl 0) (aCons (fO (eC (.int 6))) aNil))))) [.io d, .un, .un, .un, .un, .un, .un, .un, .un, .un, .un, .un, .un] = .nx [.io d1, .fz (.int (n : Int)), .un, .un, .un, .un, .un, .un, .un, .un, .un, .un, .un] := by
    have c := callIo_2 (F := FRo) (m := fO (eC (.int 6))) (rest := [.un, .un, .un, .un, .un, .un, .un, .un, .un, .un, .un, .un]) rfl e1
    generalize eCallN 2 FRo (aCons (oSl 0) (aCons (fO (eC (.int 6))) aNil)) = mm at c ⊢
    rw [← hn]
    simp only [fnB, sSeq, sNx, sIf, sRet, sRetN, sSet, sSetIx, sExpr, Out.toS, Out.bind, Out.bindN, eOp, eCall, aCons, aNil, look, looks, slD, fO, eRd, eMv, oSl, eC, ofB, BR.out, nxO, stG, R.sl, Sl.isIo, eAnd, eOr, eNot, bAnd, bOr, bNot, toT, eTup, eLst, dsOf, fI, fIc, Sl.lst, Sl.putL, ioOut, List.replicate, List.cons_append, List.nil_append, List.getElem?_cons_zero, List.getElem?_cons_succ, List.set_cons_zero, List.set_cons_succ, eCallN, mkArgs, mkArg, mkSl, disA, slIn, putArgs, reSl, eChain, eIf, eNeg, c, fAdd]
  obtain ⟨a1, a2, a3⟩ := H.area n (by omega) (by omega)
  obtain ⟨x, d2, e2, hx, hd2⟩ := H.one (m + 1) d1 ((rowsL n).map rowD) hd1 (by omega) (by simpa using a2) (by simpa using a3)
  obtain ⟨r, hr, rfl⟩ := List.mem_map.mp hx
  obtain ⟨rl, rcl, f1, f2, f3, f4, f5⟩ := H.row n r (by omega) (by omega) hr
  have n2 : sSet 2 (eCallN 2 F1 (aCons (oSl 0) (aCons (fO (eCallN 1 FA (aCons (fO (eRd 1)) aNil))) aNil))) [.io d1, .fz (.int (n : Int)), .un, .un, .un, .un, .un, .un, .un, .un, .un, .un, .un] = .nx [.io d2, .fz (.int (n : Int)), .fz (rowD r), .un, .un, .un, .un, .un, .un, .un, .un, .un, .un] := by
    have c0 := callN_1 (F := FA) (m1 := fO (eRd 1)) (γ := [.io d1, .fz (.int (n : Int)), .un, .un, .un, .un, .un, .un, .un, .un, .un, .un, .un]) rfl a1
    have c := callIo_2 (F := F1) (m := fO (eCallN 1 FA (aCons (fO (eRd 1)) aNil))) (rest := [.fz (.int (n : Int)), .un, .un, .un, .un, .un, .un, .un, .un, .un, .un, .un]) (oW c0) e2
    exact set_ok c rfl
  have n3 : sSet 3 (eCallN 1 FCl (aCons (fO (eRd 2)) aNil)) [.io d2, .fz (.int (n : Int)), .fz (rowD r), .un, .un, .un, .un, .un, .un, .un, .un, .un, .un] = .nx [.io d2, .fz (.int (n : Int)), .fz (rowD r), .own (.lst (intD (climbsL r))), .un, .un, .un, .un, .un, .un, .un, .un, .un] :=
    set_ok (callN_1 (F := FCl) (m1 := fO (eRd 2)) (γ := [.io d2, .fz (.int (n : Int)), .fz (rowD r), .un, .un, .un, .un, .un, .un, .un, .un, .un, .un]) rfl f1) rfl
  have n4 : ∀ {a : Gam → OutS}, sIf (toT (eOp (fEq true) (fO (eCallN 1 FRi (aCons (fO (eRd 2)) aNil))) (fO (eCall bTuple (aCons (oSl 3) aNil))))) a sNx [.io d2, .fz (.int (n : Int)), .fz (rowD r), .own (.lst (intD (climbsL r))), .un, .un, .un, .un, .un, .un, .un, .un, .un] = .nx [.io d2, .fz (.int (n : Int)), .fz (rowD r), .own (.lst (intD (climbsL r))), .un, .un, .un, .un, .un, .un, .un, .un, .un] := fun {a} => by
    have c := callN_1 (F := FRi) (m1 := fO (eRd 2)) (γ := [.io d2, .fz (.int (n : Int)), .fz (rowD r), .own (.lst (intD (climbsL r))), .un, .un, .un, .un, .un, .un, .un, .un, .un]) rfl f2
    generalize eCallN 1 FRi (aCons (fO (eRd 2)) aNil) = mm at c ⊢
    have q := fEq_tup true (climbsL r) (climbsL r)
    rw [decide_eq_true rfl] at q
    refine (if_f (γ1 := [.io d2, .fz (.int (n : Int)), .fz (rowD r), .own (.lst (intD (climbsL r))), .un, .un, .un, .un, .un, .un, .un, .un, .un]) ?_).trans rfl
    simp only [fnB, sSeq, sNx, sIf, sRet, sRetN, sSet, sSetIx, sExpr, Out.toS, Out.bind, Out.bindN, eOp, eCall, aCons, aNil, look, looks, slD, fO, eRd, eMv, oSl, eC, ofB, BR.out, nxO, stG, R.sl, Sl.isIo, eAnd, eOr, eNot, bAnd, bOr, bNot, toT, eTup, eLst, dsOf, fI, fIc, Sl.lst, Sl.putL, ioOut, List.replicate, List.cons_append, List.nil_append, List.getElem?_cons_zero, List.getElem?_cons_succ, List.set_cons_zero, List.set_cons_succ, eCallN, mkArgs, mkArg, mkSl, disA, slIn, putArgs, reSl, eChain, eIf, eNeg, c, bTuple, q, if_true, Bool.not_true]
  obtain ⟨k2, d3, e3, hd3, k20, k21⟩ := H.ro (m + 1 + 1) d2 (((climbsL r).length : Int) + 1) hd2 (by omega) (by omega) (by omega)
  obtain ⟨j, hj⟩ : ∃ j : Nat, k2 = (j : Int) := ⟨k2.toNat, by omega⟩
  subst hj
  obtain ⟨b1, b2, b3⟩ := f3 j (by omega)
  obtain ⟨x2, d4, e4, hx2, hd4⟩ := H.one (m + 1 + 1 + 1) d3 ((lotsL (climbsL r) j).map rowD) hd3 (by omega) (by simpa using b2) (by simpa using b3)
  obtain ⟨lot, hlot, rfl⟩ := List.mem_map.mp hx2
  obtain ⟨g1, g2, g3, g4⟩ := f4 j lot (by omega) hlot
  have n5 : sSet 4 (eCallN 2 F1 (aCons (oSl 0) (aCons (fO (eCallN 2 FLo (aCons (fO (eRd 3)) (aCons (fO (eCallN 2 FRo (aCons (oSl 0) (aCons (fO (eOp fAdd (fO (eCall bLen (aCons (oSl 3) aNil))) (fO (eC (.int 1))))) aNil)))) aNil)))) aNil))) [.io d2, .fz (.int (n : Int)), .fz (rowD r), .own (.lst (intD (climbsL r))), .un, .un, .un, .un, .un, .un, .un, .un, .un]
      = .nx [.io d4, .fz (.int (n : Int)), .fz (rowD r), .fz (.lst (intD (climbsL r))), .fz (rowD lot), .un, .un, .un, .un, .un, .un, .un, .un] := by
    have l0 : (fO (eOp fAdd (fO (eCall bLen (aCons (oSl 3) aNil))) (fO (eC (.int 1))))) [.io d2, .fz (.int (n : Int)), .fz (rowD r), .fz (.lst (intD (climbsL r))), .un, .un, .un, .un, .un, .un, .un, .un, .un] = .ok (.d (.int (((climbsL r).length : Int) + 1))) [.io d2, .fz (.int (n : Int)), .fz (rowD r), .fz (.lst (intD (climbsL r))), .un, .un, .un, .un, .un, .un, .un, .un, .un] := by
      simp only [fnB, sSeq, sNx, sIf, sRet, sRetN, sSet, sSetIx, sExpr, Out.toS, Out.bind, Out.bindN, eOp, eCall, aCons, aNil, look, looks, slD, fO, eRd, eMv, oSl, eC, ofB, BR.out, nxO, stG, R.sl, Sl.isIo, eAnd, eOr, eNot, bAnd, bOr, bNot, toT, eTup, eLst, dsOf, fI, fIc, Sl.lst, Sl.putL, ioOut, List.replicate, List.cons_append, List.nil_append, List.getElem?_cons_zero, List.getElem?_cons_succ, List.set_cons_zero, List.set_cons_succ, eCallN, mkArgs, mkArg, mkSl, disA, slIn, putArgs, reSl, eChain, eIf, eNeg, bLen, fAdd, intD_len]
    have c1 := callIo_2 (F := FRo) (rest := [.fz (.int (n : Int)), .fz (rowD r), .fz (.lst (intD (climbsL r))), .un, .un, .un, .un, .un, .un, .un, .un, .un]) l0 e3
    have c2 : eCallN 2 FLo (aCons (fO (eRd 3)) (aCons (fO (eCallN 2 FRo (aCons (oSl 0) (aCons (fO (eOp fAdd (fO (eCall bLen (aCons (oSl 3) aNil))) (fO (eC (.int 1))))) aNil)))) aNil)) [.io d2, .fz (.int (n : Int)), .fz (rowD r), .own (.lst (intD (climbsL r))), .un, .un, .un, .un, .un, .un, .un, .un, .un]
        = .ok (.own (.lst ((lotsL (climbsL r) j).map rowD))) [.io d3, .fz (.int (n : Int)), .fz (rowD r), .fz (.lst (intD (climbsL r))), .un, .un, .un, .un, .un, .un, .un, .un, .un] := by
      generalize eCallN 2 FRo (aCons (oSl 0) (aCons (fO (eOp fAdd (fO (eCall bLen (aCons (oSl 3) aNil))) (fO (eC (.int 1))))) aNil)) = mm at c1 ⊢
      generalize (j : Int) = jj at b1 c1
      simp only [fnB, sSeq, sNx, sIf, sRet, sRetN, sSet, sSetIx, sExpr, Out.toS, Out.bind, Out.bindN, eOp, eCall, aCons, aNil, look, looks, slD, fO, eRd, eMv, oSl, eC, ofB, BR.out, nxO, stG, R.sl, Sl.isIo, eAnd, eOr, eNot, bAnd, bOr, bNot, toT, eTup, eLst, dsOf, fI, fIc, Sl.lst, Sl.putL, ioOut, List.replicate, List.cons_append, List.nil_append, List.getElem?_cons_zero, List.getElem?_cons_succ, List.set_cons_zero, List.set_cons_succ, eCallN, mkArgs, mkArg, mkSl, disA, slIn, putArgs, reSl, eChain, eIf, eNeg, c1, b1, Nat.beq, List.length_cons, List.length_nil, Bool.and_self]
    have c3 := callIo_2 (F := F1) (rest := [.fz (.int (n : Int)), .fz (rowD r), .own (.lst (intD (climbsL r))), .un, .un, .un, .un, .un, .un, .un, .un, .un]) (oW2 c2) e4
    exact set_ok c3 rfl
  obtain ⟨vs, e5, hvs⟩ := g3 d4
  have n6 : ∃ t, sFor (mIter (fO (eCallN 3 FN (aCons (oSl 0) (aCons (fO (eRd 2)) (aCons (fO (eRd 4)) aNil)))))) (gNm 5) (sSeq (sIf (toT (eOp (fEq true) (fO (eCall bRepr (aCons (fO (eCallN 2 FM (aCons (fO (eRd 2)) (aCons (fO (eRd 5)) aNil)))) aNil))) (fO (eCall bRepr (aCons (fO (eCallN 2 FI (aCons (fO (eRd 2)) (aCons (fO (eRd 5)) aNil)))) aNil))))) (sSeq (sRet (eC (.bl false))) sNx) sNx) sNx) [.io d4, .fz (.int (n : Int)), .fz (rowD r), .fz (.lst (intD (climbsL r))), .fz (rowD lot), .un, .un, .un, .un, .un, .un, .un, .un]
      = .nx [.io d4, .fz (.int (n : Int)), .fz (rowD r), .fz (.lst (intD (climbsL r))), .fz (rowD lot), t, .un, .un, .un, .un, .un, .un, .un] ∧ t.isIo = false := by
    have c := callIo_3 (F := FN) (m1 := fO (eRd 2)) (m2 := fO (eRd 4)) (rest := [.fz (.int (n : Int)), .fz (rowD r), .fz (.lst (intD (climbsL r))), .fz (rowD lot), .un, .un, .un, .un, .un, .un, .un, .un]) rfl rfl e5
    have hmi : mIter (fO (eCallN 3 FN (aCons (oSl 0) (aCons (fO (eRd 2)) (aCons (fO (eRd 4)) aNil))))) [.io d4, .fz (.int (n : Int)), .fz (rowD r), .fz (.lst (intD (climbsL r))), .fz (rowD lot), .un, .un, .un, .un, .un, .un, .un, .un] = .ok (vs.map id) [.io d4, .fz (.int (n : Int)), .fz (rowD r), .fz (.lst (intD (climbsL r))), .fz (rowD lot), .un, .un, .un, .un, .un, .un, .un, .un] := by
      generalize eCallN 3 FN (aCons (oSl 0) (aCons (fO (eRd 2)) (aCons (fO (eRd 4)) aNil))) = mm at c ⊢
      simp only [mIter, fO, c, Out.bind, List.map_id]
    obtain ⟨γ', e, t, rfl, ht⟩ := for_ok (S := Unit) (f := gNm 5) id (fun _ γ => ∃ t, γ = [.io d4, .fz (.int (n : Int)), .fz (rowD r), .fz (.lst (intD (climbsL r))), .fz (rowD lot), t, .un, .un, .un, .un, .un, .un, .un] ∧ t.isIo = false) (fun s _ => s) vs () hmi ⟨.un, rfl, rfl⟩ (fun _ v γ hv hJ => by
      obtain ⟨t, rfl, ht⟩ := hJ
      obtain ⟨b, q1, q2⟩ := f5 v (hvs v hv)
      exact ⟨_, _, nonio_set (t := t) rfl ht, judge_turn (r := r) q1 q2, _, rfl, rfl⟩)
    exact ⟨t, e, ht⟩
  obtain ⟨t5, n6, ht5⟩ := n6
  subst rl
  have erg : rgD 1 (((r.length : Int) + 1) - 1).toNat = intD ((List.range (((r.length : Int) + 1) - 1).toNat).map fun (k : Nat) => (1 + (k : Nat) : Int)) := by rw [rgD_map, intD_map, List.map_map]; rfl
  have elen : (((r.length : Int) + 1) - 1).toNat = r.length := by omega
  rw [elen] at erg
  obtain ⟨d5, es, e6, pes, hd5⟩ := H.mix (m + 1 + 1 + 1 + 1) d4 ((List.range r.length).map fun (k : Nat) => (1 + (k : Nat) : Int)) hd4 (by omega) (by simp; omega)
  have n7 : sPar3 6 7 8 (eCallN 2 FX (aCons (oSl 0) (aCons (fO (eLstRg2 (fO (eC (.int 1))) (fO (eOp fAdd (oSl 1) (fO (eC (.int 1))))))) aNil))) (eLst aNil) (eC (.int 0)) [.io d4, .fz (.int (r.length : Int)), .fz (rowD r), .fz (.lst (intD (climbsL r))), .fz (rowD lot), t5, .un, .un, .un, .un, .un, .un, .un]
      = .nx (gR (.io d5) (r.length : Int) r (.fz (.lst (intD (climbsL r)))) (.fz (rowD lot)) t5 (intD es) (intD []) (.fz (.int ((0 : Nat) : Int))) .un .un .un .un) := by
    have l1 := lstRg_ok (m1 := fO (eC (.int 1))) (m2 := fO (eOp fAdd (oSl 1) (fO (eC (.int 1))))) (γ := [.io d4, .fz (.int (r.length : Int)), .fz (rowD r), .fz (.lst (intD (climbsL r))), .fz (rowD lot), t5, .un, .un, .un, .un, .un, .un, .un]) (a := .d (.int 1)) (b := .d (.int ((r.length : Int) + 1))) rfl rfl rfl rfl (rgB_of2 (by decide) (by decide) (by omega) (by omega))
    rw [elen, erg] at l1
    have c := callIo_2 (F := FX) (rest := [.fz (.int (r.length : Int)), .fz (rowD r), .fz (.lst (intD (climbsL r))), .fz (rowD lot), t5, .un, .un, .un, .un, .un, .un, .un]) (oW l1) e6
    generalize eCallN 2 FX (aCons (oSl 0) (aCons (fO (eLstRg2 (fO (eC (.int 1))) (fO (eOp fAdd (oSl 1) (fO (eC (.int 1))))))) aNil)) = mm at c ⊢
    unfold sPar3
    rw [c]
    rfl
  have ndes : es.Nodup := pes.nodup_iff.mpr (by
    refine List.Pairwise.map _ (fun a b (h : a < b) => ?_) List.pairwise_lt_range
    omega)
  have hes : es.length = r.length := by rw [pes.length_eq]; simp
  obtain ⟨ord, t9, n8, ht9, S⟩ := outer_go (r := r) (es := es) (s0 := .io d5) (s3 := .fz (.lst (intD (climbsL r)))) (s4 := .fz (rowD lot)) (s5 := t5) (s10 := .un) (s11 := .un) (s12 := .un) 8 ndes hes (by omega) (by omega) 8 0 [] .un rfl ⟨by omega, rfl, by simp, fun i h1 h2 => by omega, .inl rfl⟩ (by omega)
  have pm : ord.Perm ((List.range r.length).map fun (k : Nat) => (1 + (k : Nat) : Int)) := by
    have := S.pm
    rw [← hes, List.take_length] at this
    exact this.trans pes
  have L : Lab r ord := ⟨S.len, fun x hx => by
    obtain ⟨k, hk, rfl⟩ := List.mem_map.mp (pm.mem_iff.mp hx)
    have := List.mem_range.mp hk
    omega, (pm.trans pes.symm).nodup_iff.mpr ndes, fun i h1 h2 hc => S.up i h1 h2 hc⟩
  obtain ⟨c, p1, p2⟩ := g4 ord L
  have tupO : ∀ a b cc : Sl, eCall bTuple (aCons (oSl 7) aNil) (gR (.io d5) (r.length : Int) r (.fz (.lst (intD (climbsL r)))) (.fz (rowD lot)) t5 (intD es) (intD ord) (.fz (.int (r.length : Int))) t9 a b cc) = .ok (.fz (rowD ord)) (gR (.io d5) (r.length : Int) r (.fz (.lst (intD (climbsL r)))) (.fz (rowD lot)) t5 (intD es) (intD ord) (.fz (.int (r.length : Int))) t9 a b cc) := fun _ _ _ => rfl
  have n9 : sAsg (fO (eCallN 2 FP (aCons (fO (eRd 2)) (aCons (fO (eCall bTuple (aCons (oSl 7) aNil))) aNil)))) (gTp 2 (gsCons (gNm 10) (gsCons (gNm 11) gsNil))) (gR (.io d5) (r.length : Int) r (.fz (.lst (intD (climbsL r)))) (.fz (rowD lot)) t5 (intD es) (intD ord) (.fz (.int (r.length : Int))) t9 .un .un .un)
      = .nx (gR (.io d5) (r.length : Int) r (.fz (.lst (intD (climbsL r)))) (.fz (rowD lot)) t5 (intD es) (intD ord) (.fz (.int (r.length : Int))) t9 (.fz (.int r.sum)) (.fz (.int c)) .un) := by
    have q := callN_2 (F := FP) (m1 := fO (eRd 2)) (m2 := fO (eCall bTuple (aCons (oSl 7) aNil))) (γ := gR (.io d5) (r.length : Int) r (.fz (.lst (intD (climbsL r)))) (.fz (rowD lot)) t5 (intD es) (intD ord) (.fz (.int (r.length : Int))) t9 .un .un .un) rfl (oO (tupO _ _ _)) p1
    generalize eCallN 2 FP (aCons (fO (eRd 2)) (aCons (fO (eCall bTuple (aCons (oSl 7) aNil))) aNil)) = mm at q ⊢
    unfold sAsg fO
    rw [q]
    rfl
  refine ⟨d5, ?_, hd5.mono (by omega)⟩
  unfold bodyR
  refine (fnB_rt (γ := gR (.io d5) (r.length : Int) r (.fz (.lst (intD (climbsL r)))) (.fz (rowD lot)) t5 (intD es) (intD ord) (.fz (.int (r.length : Int))) t9 (.fz (.int r.sum)) (.fz (.int c)) .un) (r := .fz (.bl true)) ?_).trans rfl
  show sSeq _ _ [.io d, .un, .un, .un, .un, .un, .un, .un, .un, .un, .un, .un, .un] = _
  rw [seq_nx n1, seq_nx n2, seq_nx n3, seq_nx n4, seq_nx n5, seq_nx n6, seq_nx n7]
  rw [seq_nx n8, seq_nx n9]
  refine seq_rt (ret_ok ?_)
  have k1 := callN_3 (F := FK) (m1 := fO (eRd 2)) (m2 := fO (eRd 4)) (m3 := fO (eCall bTuple (aCons (oSl 7) aNil))) (γ := gR (.io d5) (r.length : Int) r (.fz (.lst (intD (climbsL r)))) (.fz (rowD lot)) t5 (intD es) (intD ord) (.fz (.int (r.length : Int))) t9 (.fz (.int r.sum)) (.fz (.int c)) .un) rfl rfl (oO (tupO _ _ _)) p2
  have e10 := eLc_map (mi := mIter (fO (eRd 4))) (vs := [12]) (f := gNm 12) (t := mYes) (e := fO (eOp fIx (oSl 2) (oSl 12))) (γ := gR (.io d5) (r.length : Int) r (.fz (.lst (intD (climbsL r)))) (.fz (rowD lot)) t5 (intD es) (intD ord) (.fz (.int (r.length : Int))) t9 (.fz (.int r.sum)) (.fz (.int c)) .un)
    D.int (fun x => gR (.io d5) (r.length : Int) r (.fz (.lst (intD (climbsL r)))) (.fz (rowD lot)) t5 (intD es) (intD ord) (.fz (.int (r.length : Int))) t9 (.fz (.int r.sum)) (.fz (.int c)) (.fz (.int x))) (fun _ => true) (fun x => D.int (at0 r x.toNat)) lot
    (by simp only [mIter, fnB, sSeq, sNx, sIf, sRet, sRetN, sSet, sSetIx, sExpr, Out.toS, Out.bind, Out.bindN, eOp, eCall, aCons, aNil, look, looks, slD, fO, eRd, eMv, oSl, eC, ofB, BR.out, nxO, stG, R.sl, Sl.isIo, eAnd, eOr, eNot, bAnd, bOr, bNot, toT, eTup, eLst, dsOf, fI, fIc, Sl.lst, Sl.putL, ioOut, List.replicate, List.cons_append, List.nil_append, List.getElem?_cons_zero, List.getElem?_cons_succ, List.set_cons_zero, List.set_cons_succ, eCallN, mkArgs, mkArg, mkSl, disA, slIn, putArgs, reSl, eChain, eIf, eNeg, gR, intD_map]) rfl (fun _ _ => rfl) (fun _ _ => rfl) (fun x hx _ => by
      obtain ⟨h0, h1⟩ := g2 x hx
      have a := fIx_at (r := r) (i := x.toNat) (x := x) (by omega) (by omega)
      simp only [fnB, sSeq, sNx, sIf, sRet, sRetN, sSet, sSetIx, sExpr, Out.toS, Out.bind, Out.bindN, eOp, eCall, aCons, aNil, look, looks, slD, fO, eRd, eMv, oSl, eC, ofB, BR.out, nxO, stG, R.sl, Sl.isIo, eAnd, eOr, eNot, bAnd, bOr, bNot, toT, eTup, eLst, dsOf, fI, fIc, Sl.lst, Sl.putL, ioOut, List.replicate, List.cons_append, List.nil_append, List.getElem?_cons_zero, List.getElem?_cons_succ, List.set_cons_zero, List.set_cons_succ, eCallN, mkArgs, mkArg, mkSl, disA, slIn, putArgs, reSl, eChain, eIf, eNeg, gR, a]) (fun _ _ => rfl) (by omega)
  rw [filter_yes, intD_of] at e10
  have q10 := entries_ok g2 (by omega) _ [] 2 4 12 e10
  generalize eCallN 3 FK (aCons (fO (eRd 2)) (aCons (fO (eRd 4)) (aCons (fO (eCall bTuple (aCons (oSl 7) aNil))) aNil))) = mk at k1 ⊢
  generalize eCall bSum (aCons (fO (eLc (mIter (fO (eRd 4))) [12] (gNm 12) mYes (fO (eOp fIx (oSl 2) (oSl 12))))) aNil) = ms at q10 ⊢
  have f2 : ∀ a b : D, fitN ([a, b].length) = true := fun _ _ => rfl
  have q := fEq_tup false [r.sum - lotSum r lot, c] [r.sum - lotSum r lot, c]
  rw [decide_eq_true rfl] at q
  simp only [intD, Bool.false_eq_true, if_false] at q
  simp only [gR] at k1 q10
  simp only [lotSum] at k1 q
  simp only [fnB, sSeq, sNx, sIf, sRet, sRetN, sSet, sSetIx, sExpr, Out.toS, Out.bind, Out.bindN, eOp, eCall, aCons, aNil, look, looks, slD, fO, eRd, eMv, oSl, eC, ofB, BR.out, nxO, stG, R.sl, Sl.isIo, eAnd, eOr, eNot, bAnd, bOr, bNot, toT, eTup, eLst, dsOf, fI, fIc, Sl.lst, Sl.putL, ioOut, List.replicate, List.cons_append, List.nil_append, List.getElem?_cons_zero, List.getElem?_cons_succ, List.set_cons_zero, List.set_cons_succ, eCallN, mkArgs, mkArg, mkSl, disA, slIn, putArgs, reSl, eChain, eIf, eNeg, gR, k1, q10, fSub, f2, q]
end
end T

-- text V18
set_option Elab.async false
set_option linter.all false
set_option maxRecDepth 100000
set_option maxHeartbeats 4000000
namespace T
open PySem L2
theorem lots_len : (subs [1, 2, 3, 4, 5]).all (fun cs => Nat.ble cs.length 5 && (List.range (cs.length + 1)).all fun m => Nat.ble (lotsL cs m).length 1000) = true := by decide +kernel
def rowChk3 (r : List Int) : Bool := Nat.ble (pairsL r).length 1000 && (pairsL r).all fun p => Nat.blt p.i r.length && Nat.blt p.j r.length
theorem rows3 : ([1, 2, 3, 4, 5, 6].all fun n => (rowsL n).all rowChk3) = true := by decide +kernel
theorem memL_ok {a : List Int} : ∀ {l : List (List Int)}, memL a l = true → a ∈ l
  | [], h => by cases h
  | b :: bs, h => by
    unfold memL at h
    split at h
    · rename_i e; rw [of_decide_eq_true e]; exact List.mem_cons_self
    · exact List.mem_cons_of_mem _ (memL_ok h)
theorem and2 {a b : Bool} (h : (a && b) = true) : a = true ∧ b = true := Bool.and_eq_true_iff.mp h
theorem all_at {α : Type} {p : α → Bool} {l : List α} (h : l.all p = true) {x : α} (hx : x ∈ l) : p x = true := List.all_eq_true.mp h x hx
theorem six {n : Nat} (h1 : 1 ≤ n) (h2 : n ≤ 6) : n ∈ [1, 2, 3, 4, 5, 6] := by
  have : n = 1 ∨ n = 2 ∨ n = 3 ∨ n = 4 ∨ n = 5 ∨ n = 6 := by omega
  rcases this with rfl | rfl | rfl | rfl | rfl | rfl <;> simp
theorem row_chk {n : Nat} (h1 : 1 ≤ n) (h2 : n ≤ 6) {r : List Int} (hr : r ∈ rowsL n) : rowChk r = true := by
  have : n = 1 ∨ n = 2 ∨ n = 3 ∨ n = 4 ∨ n = 5 ∨ n = 6 := by omega
  rcases this with rfl | rfl | rfl | rfl | rfl | rfl
  · exact all_at rows_1 hr
  · exact all_at rows_2 hr
  · exact all_at rows_3 hr
  · exact all_at rows_4 hr
  · exact all_at rows_5 hr
  · exact all_at rows_6 hr
theorem area_ok (n : Nat) (h1 : 1 ≤ n) (h2 : n ≤ 6) : F_law_area_rows [.fz (.int (n : Nat))] = .ok (.own (.lst ((rowsL n).map rowD))) [.fz (.int (n : Nat))] ∧ rowsL n ≠ [] ∧ (rowsL n).length ≤ 1000 := by
  obtain ⟨a, b⟩ := and2 (all_at rows_ne (six h1 h2))
  have a := blt_of a
  have b := Nat.le_of_ble_eq_true b
  refine ⟨?_, fun e => by rw [e] at a; simp at a, b⟩
  have : n = 1 ∨ n = 2 ∨ n = 3 ∨ n = 4 ∨ n = 5 ∨ n = 6 := by omega
  rcases this with rfl | rfl | rfl | rfl | rfl | rfl
  · exact chk_ok area_1
  · exact chk_ok area_2
  · exact chk_ok area_3
  · exact chk_ok area_4
  · exact chk_ok area_5
  · exact chk_ok area_6
theorem nd_at {o : List Int} (nd : o.Nodup) {i j : Nat} (hi : i < o.length) (hj : j < o.length) (hne : i ≠ j) : at0 o i ≠ at0 o j := by
  unfold at0
  rw [List.getD_eq_getElem?_getD, List.getD_eq_getElem?_getD, List.getElem?_eq_getElem hi, List.getElem?_eq_getElem hj]
  simp only [Option.getD_some]
  intro e
  have p := List.pairwise_iff_getElem.mp nd
  rcases Nat.lt_or_gt_of_ne hne with h | h
  · exact p i j hi hj h e
  · exact p j i hj hi h e.symm
theorem theRH : RH F_law_roll F_law_one_of F_law_area_rows F_law_climbs F_rises F_law_lots_from F_law_near_lots F_are_marks F_law_is_lot F_law_mixed F_law_path_counts F_marked_counts where
  ro := rolls
  one := fun m d ds h hm hn hn2 => one_of_ok h hm hn hn2
  mix := fun m d l h hm hl => mixed_ok h hm hl
  area := area_ok
  row := fun n r h1 h2 hr => by
    have c := row_chk h1 h2 hr
    unfold rowChk at c
    obtain ⟨k1, c⟩ := and2 c
    obtain ⟨k2, c⟩ := and2 c
    obtain ⟨k3, c⟩ := and2 c
    obtain ⟨k4, c⟩ := and2 c
    obtain ⟨k5, c⟩ := and2 c
    obtain ⟨k6, c⟩ := and2 c
    have k1 := chk_ok k1
    have k2 := chk_ok k2
    have k3 := chk_ok k3
    have k4 := chk_ok k4
    have k5 := chk_ok k5
    have hlen : r.length = n := Nat.eq_of_beq_eq_true (all_at (all_at rows_len (six h1 h2)) hr)
    obtain ⟨c1, c2'⟩ := and2 (all_at (all_at rows2 (six h1 h2)) hr)
    have hmem := memL_ok c1
    have hcs : ∀ c ∈ climbsL r, 1 ≤ c ∧ c ≤ (r.length : Int) - 1 := fun c hc => by
      obtain ⟨a, b⟩ := and2 (all_at c2' hc)
      exact ⟨of_decide_eq_true a, of_decide_eq_true b⟩
    obtain ⟨p1, p2⟩ := and2 (all_at (all_at rows3 (six h1 h2)) hr)
    obtain ⟨l5, ll⟩ := and2 (all_at lots_len hmem)
    have l5 := Nat.le_of_ble_eq_true l5
    refine ⟨hlen, l5, k3, k1, fun m hm => ?_, fun m lot hm hlot => ?_, fun v hv => ?_⟩
    · have q := all_at (all_at lots_all hmem) (List.mem_range.mpr (show m < (climbsL r).length + 1 by omega))
      obtain ⟨q1, q2⟩ := and2 q
      obtain ⟨q2, q3⟩ := and2 q2
      have q3 := blt_of q3
      exact ⟨chk_ok q1, fun e => by rw [e] at q3; simp at q3, Nat.le_of_ble_eq_true (all_at ll (List.mem_range.mpr (show m < (climbsL r).length + 1 by omega)))⟩
    · have q := all_at (all_at lots_all hmem) (List.mem_range.mpr (show m < (climbsL r).length + 1 by omega))
      obtain ⟨q1, q2⟩ := and2 q
      obtain ⟨q2, q3⟩ := and2 q2
      obtain ⟨x1, x2⟩ := and2 (all_at q2 hlot)
      obtain ⟨x2, x3⟩ := and2 x2
      have x3 := Nat.le_of_ble_eq_true x3
      have hx : ∀ x ∈ lot, 0 ≤ x ∧ x < (r.length : Int) := fun x hx => by
        obtain ⟨a, b⟩ := hcs x (memI_iff.mp (all_at x1 hx))
        omega
      refine ⟨x3, hx, fun d => near_gen k3 (by omega) x3 (by omega), fun o L => ⟨lawD r o, law_counts (by omega) L.len, ?_⟩⟩
      have hmk : marksB r (climbsL r) (rowD lot) = true := by
        unfold marksB
        dsimp only
        rw [intsOf_intD]
        dsimp only
        rw [x1, x2]
        have : (intD lot).all (wi 1 ((r.length : Int) - 1)) = true := by
          rw [intD_map, List.all_map]
          refine List.all_eq_true.mpr fun i hi => ?_
          obtain ⟨a, b⟩ := hcs i (memI_iff.mp (all_at x1 hi))
          show (decide (1 ≤ i) && decide (i ≤ (r.length : Int) - 1)) = true
          rw [decide_eq_true a, decide_eq_true b]
          rfl
        rw [this]
        rfl
      have m1 := marks_in (v := rowD lot) k2 (okV_row lot (by omega))
      rw [hmk] at m1
      have hd : ∀ i j : Nat, i < r.length → j < r.length → i ≠ j → at0 o i ≠ at0 o j := fun i j hi hj hne => nd_at L.nd (by rw [L.len]; exact hi) (by rw [L.len]; exact hj) hne
      rw [lawD_eq hd]
      exact counts_gen (FR := F_require_marks) (FL := F_is_labelled_in) (FP := F_path_counts_in) (FE := F_marked_entries)
        (req_marks (FR := F_require_row) (FM := F_are_marks_in) k4 m1)
        (labelled_ok (FW := F_is_within) (FC := F_does_climb) L (by omega) (fun v a b h => within_ok v a b h) fun i hi => chk_ok (all_at k6 (List.mem_range.mpr hi)))
        (path_in (FI := F_index_pairs) (FD := F_dinv_along) (ps := pairsL r) k5 (dinv_ok (pairsL r) (fun p hp => by
          obtain ⟨a, b⟩ := and2 (all_at p2 hp)
          rw [L.len]
          exact ⟨blt_of a, blt_of b⟩) (Nat.le_of_ble_eq_true p1)))
        (marked_entries_ok hx (by omega))
    · have m1 := marks_in (v := v) k2 hv
      have m2 := is_lot_ok k3 hv
      rw [← marks_lot hcs v] at m2
      exact ⟨_, are_marks_gen (FR := F_require_row) (FM := F_are_marks_in) k4 m1, m2⟩
theorem right_ok {m : Int} {d : D} (hd : Dice m d) (hm : m < 800) : ∃ d', B_law_right [.io d] = .ok (.fz (.bl true)) [.io d'] ∧ Dice (m + 20) d' := right_gen theRH hd hm
end T

-- text V19
set_option Elab.async false
set_option linter.all false
set_option maxRecDepth 100000
set_option maxHeartbeats 4000000
namespace T
open PySem L2
theorem listG_2 {F : Gam → Out (List D)} {m1 m2 : Gam → Out Ar} {γ : Gam} {x y : D} {out : List D} (h1 : m1 γ = .ok (.d x) γ) (h2 : m2 γ = .ok (.d y) γ) (h : F [.fz x, .fz y] = .ok out [.fz x, .fz y]) : eListG 2 F (aCons m1 (aCons m2 aNil)) γ = .ok (.own (.lst out)) γ := by
  simp only [eListG, aCons, aNil, Out.bind, h1, h2, disA, mkArgs, mkArg, Nat.beq, List.length_cons, List.length_nil, Bool.and_self, h, putArgs]
theorem call_right {F : Gam → Out R} {a b : Sl} {d d' : D} {y : R} {rest : Gam} (h : F [.io d] = .ok y [.io d']) : eCallN 1 F (aCons (oSl 2) aNil) (a :: b :: .own d :: rest) = .ok y (a :: b :: .own d' :: rest) := by
  simp only [eCallN, aCons, aNil, Out.bind, oSl, List.getElem?_cons_zero, List.getElem?_cons_succ, disA, slIn, mkArgs, mkArg, mkSl, Nat.beq, List.length_cons, List.length_nil, Bool.not_false, Bool.and_self, h, putArgs, reSl, List.set_cons_zero, List.set_cons_succ]
theorem call_roll {F : Gam → Out R} {m : Gam → Out Ar} {a b : Sl} {d d' x : D} {y : R} {rest : Gam} (hm : m (a :: b :: .own d :: rest) = .ok (.d x) (a :: b :: .own d :: rest)) (h : F [.io d, .fz x] = .ok y [.io d', .fz x]) : eCallN 2 F (aCons (oSl 2) (aCons m aNil)) (a :: b :: .own d :: rest) = .ok y (a :: b :: .own d' :: rest) := by
  simp only [eCallN, aCons, aNil, Out.bind, oSl, List.getElem?_cons_zero, List.getElem?_cons_succ, hm, disA, slIn, mkArgs, mkArg, mkSl, Nat.beq, List.length_cons, List.length_nil, Bool.not_false, Bool.and_self, h, putArgs, reSl, List.set_cons_zero, List.set_cons_succ]
structure LH (sc : D) (FD FRt FRo FLM FA FCl : Gam → Out R) (FMR : Gam → Out (List D)) : Prop where
  di : ∀ k : Nat, k < 64 → ∃ d, FD [.fz sc, .fz (.int (k : Int))] = .ok (.own d) [.fz sc, .fz (.int (k : Int))] ∧ Dice 0 d
  rt : ∀ (m : Int) (d : D), Dice m d → m < 800 → ∃ d', FRt [.io d] = .ok (.fz (.bl true)) [.io d'] ∧ Dice (m + 20) d'
  ro : Rolls FRo
  sm : ∀ n m : Nat, 1 ≤ n → n ≤ 6 → m < n → ∃ ds es, FMR [.fz (.int (n : Int)), .fz (.int (m : Int))] = .ok ds [.fz (.int (n : Int)), .fz (.int (m : Int))] ∧ FLM [.fz (.int (n : Int)), .fz (.int (m : Int))] = .ok (.own (.lst es)) [.fz (.int (n : Int)), .fz (.int (m : Int))] ∧ fEq true (.lst ds) (.lst es) = some (.val (.bl false))
  fin : ∃ ds, FMR [.fz (.int 4), .fz (.int 1)] = .ok ds [.fz (.int 4), .fz (.int 1)] ∧ ds.length = 21
  area : FA [.fz (.int 4)] = .ok (.own (.lst ((rowsL 4).map rowD))) [.fz (.int 4)]
  cl : ∀ r ∈ rowsL 4, FCl [.fz (rowD r)] = .ok (.own (.lst (intD (climbsL r)))) [.fz (rowD r)]
def bodyL (FD FRt FRo FLM FA FCl : Gam → Out R) (FMR : Gam → Out (List D)) : Gam → OutS := (sSeq (sFor (mRng1 (aCons (fO (eCall bMax2 (aCons (fO (eC (.int 1))) (aCons (fO (eCall bMin2 (aCons (fO (eC (.int 4))) (aCons (fO (eCall bLen (aCons (oSl 0) aNil))) aNil)))) aNil)))) aNil)) (gNm 1) (sSeq (sSet 2 (eCallN 2 FD (aCons (fO (eRd 0)) (aCons (fO (eRd 1)) aNil)))) (sSeq (sFor (mRng1 (aCons (fO (eC (.int 3))) aNil)) (gNm 3) (sSeq (sIf (bNot (toT (eCallN 1 FRt (aCons (oSl 2) aNil)))) (sSeq (sRet (eC (.bl false))) sNx) sNx) sNx)) (sSeq (sSet 4 (eOp fAdd (fO (eC (.int 1))) (fO (eCallN 2 FRo (aCons (oSl 2) (aCons (fO (eC (.int 5))) aNil)))))) (sSeq (sFor (mRng1 (aCons (oSl 4) aNil)) (gNm 5) (sSeq (sIf (toT (eOp (fEq true) (fO (eListG 2 FMR (aCons (fO (eRd 4)) (aCons (fO (eRd 5)) aNil)))) (fO (eCallN 2 FLM (aCons (fO (eRd 4)) (aCons (fO (eRd 5)) aNil)))))) (sSeq (sRet (eC (.bl false))) sNx) sNx) sNx)) (sSeq (sPar2 4 5 (eC (.int 6)) (eCallN 2 FRo (aCons (oSl 2) (aCons (fO (eC (.int 6))) aNil)))) (sSeq (sIf (toT (eOp (fEq true) (fO (eListG 2 FMR (aCons (fO (eRd 4)) (aCons (fO (eRd 5)) aNil)))) (fO (eCallN 2 FLM (aCons (fO (eRd 4)) (aCons (fO (eRd 5)) aNil)))))) (sSeq (sRet (eC (.bl false))) sNx) sNx) sNx))))))) (sSeq (sRet (eOp (fEq false) (fO (eCall bLen (aCons (fO (eListG 2 FMR (aCons (fO (eC (.int 4))) (aCons (fO (eC (.int 1))) aNil)))) aNil))) (fO (eCall bSum (aCons (fO (eLc (mIter (fO (eCallN 1 FA (aCons (fO (eC (.int 4))) aNil)))) [6] (gNm 6) mYes (fO (eCall bLen (aCons (fO (eCallN 1 FCl (aCons (fO (eRd 6)) aNil))) aNil))))) aNil))))) sNx))
section
variable {sc : D} {FD FRt FRo FLM FA FCl : Gam → Out R} {FMR : Gam → Out (List D)}
theorem cmp_nx (H : LH sc FD FRt FRo FLM FA FCl FMR) {n m : Nat} (h1 : 1 ≤ n) (h2 : n ≤ 6) (h3 : m < n) (a b c d : Sl) (rest : Gam) : (sIf (toT (eOp (fEq true) (fO (eListG 2 FMR (aCons (fO (eRd 4)) (aCons (fO (eRd 5)) aNil)))) (fO (eCallN 2 FLM (aCons (fO (eRd 4)) (aCons (fO (eRd 5)) aNil)))))) (sSeq (sRet (eC (.bl false))) sNx) sNx) (a :: b :: c :: d :: .fz (.int (n : Int)) :: .fz (.int (m : Int)) :: rest) = .nx (a :: b :: c :: d :: .fz (.int (n : Int)) :: .fz (.int (m : Int)) :: rest) := by
  obtain ⟨ds, es, q1, q2, q3⟩ := H.sm n m h1 h2 h3
  have c1 := listG_2 (F := FMR) (m1 := fO (eRd 4)) (m2 := fO (eRd 5)) (γ := (a :: b :: c :: d :: .fz (.int (n : Int)) :: .fz (.int (m : Int)) :: rest)) rfl rfl q1
  have c2 := callN_2 (F := FLM) (m1 := fO (eRd 4)) (m2 := fO (eRd 5)) (γ := (a :: b :: c :: d :: .fz (.int (n : Int)) :: .fz (.int (m : Int)) :: rest)) rfl rfl q2
  generalize eListG 2 FMR (aCons (fO (eRd 4)) (aCons (fO (eRd 5)) aNil)) = m1 at c1 ⊢
  generalize eCallN 2 FLM (aCons (fO (eRd 4)) (aCons (fO (eRd 5)) aNil)) = m2 at c2 ⊢
  refine (if_f (γ1 := (a :: b :: c :: d :: .fz (.int (n : Int)) :: .fz (.int (m : Int)) :: rest)) ?_).trans rfl
  simp only [fnB, sSeq, sNx, sIf, sRet, sRetN, sSet, sSetIx, sExpr, Out.toS, Out.bind, Out.bindN, eOp, eCall, aCons, aNil, look, looks, slD, fO, eRd, eMv, oSl, eC, ofB, BR.out, nxO, stG, R.sl, Sl.isIo, eAnd, eOr, eNot, bAnd, bOr, bNot, toT, eTup, eLst, dsOf, fI, fIc, Sl.lst, Sl.putL, ioOut, List.replicate, List.cons_append, List.nil_append, List.getElem?_cons_zero, List.getElem?_cons_succ, List.set_cons_zero, List.set_cons_succ, eCallN, mkArgs, mkArg, mkSl, disA, slIn, putArgs, reSl, eChain, eIf, eNeg, c1, c2, q3]
theorem cell_ok (H : LH sc FD FRt FRo FLM FA FCl FMR) (k : Nat) (hk : k < 64) (s2 s3 s4 s5 s6 : Sl) (h2 : s2.isIo = false) (h3 : s3.isIo = false) (h4 : s4.isIo = false) (h5 : s5.isIo = false) :
    ∃ t2 t3 t4 t5, (sSeq (sSet 2 (eCallN 2 FD (aCons (fO (eRd 0)) (aCons (fO (eRd 1)) aNil)))) (sSeq (sFor (mRng1 (aCons (fO (eC (.int 3))) aNil)) (gNm 3) (sSeq (sIf (bNot (toT (eCallN 1 FRt (aCons (oSl 2) aNil)))) (sSeq (sRet (eC (.bl false))) sNx) sNx) sNx)) (sSeq (sSet 4 (eOp fAdd (fO (eC (.int 1))) (fO (eCallN 2 FRo (aCons (oSl 2) (aCons (fO (eC (.int 5))) aNil)))))) (sSeq (sFor (mRng1 (aCons (oSl 4) aNil)) (gNm 5) (sSeq (sIf (toT (eOp (fEq true) (fO (eListG 2 FMR (aCons (fO (eRd 4)) (aCons (fO (eRd 5)) aNil)))) (fO (eCallN 2 FLM (aCons (fO (eRd 4)) (aCons (fO (eRd 5)) aNil)))))) (sSeq (sRet (eC (.bl false))) sNx) sNx) sNx)) (sSeq (sPar2 4 5 (eC (.int 6)) (eCallN 2 FRo (aCons (oSl 2) (aCons (fO (eC (.int 6))) aNil)))) (sSeq (sIf (toT (eOp (fEq true) (fO (eListG 2 FMR (aCons (fO (eRd 4)) (aCons (fO (eRd 5)) aNil)))) (fO (eCallN 2 FLM (aCons (fO (eRd 4)) (aCons (fO (eRd 5)) aNil)))))) (sSeq (sRet (eC (.bl false))) sNx) sNx) sNx)))))) [.fz sc, .fz (.int (k : Int)), s2, s3, s4, s5, s6] = .nx [.fz sc, .fz (.int (k : Int)), t2, t3, t4, t5, s6] ∧ t2.isIo = false ∧ t3.isIo = false ∧ t4.isIo = false ∧ t5.isIo = false := by
  obtain ⟨d, e1, hd⟩ := H.di k hk
  have n1 : sSet 2 (eCallN 2 FD (aCons (fO (eRd 0)) (aCons (fO (eRd 1)) aNil))) [.fz sc, .fz (.int (k : Int)), s2, s3, s4, s5, s6] = .nx [.fz sc, .fz (.int (k : Int)), .own d, s3, s4, s5, s6] :=
    set_ok (callN_2 (F := FD) (m1 := fO (eRd 0)) (m2 := fO (eRd 1)) (γ := [.fz sc, .fz (.int (k : Int)), s2, s3, s4, s5, s6]) rfl rfl e1) (nonio_set (t := s2) rfl h2)
  obtain ⟨γ', e2, d2, t3, rfl, ht3, hd2⟩ := loopS_cnt (f := gNm 3) (b := (sSeq (sIf (bNot (toT (eCallN 1 FRt (aCons (oSl 2) aNil)))) (sSeq (sRet (eC (.bl false))) sNx) sNx) sNx)) (fun i : Nat => D.int (0 + (i : Nat))) (fun c γ => ∃ d t3, γ = [.fz sc, .fz (.int (k : Int)), .own d, t3, s4, s5, s6] ∧ t3.isIo = false ∧ Dice (20 * (c : Int)) d) 3 (List.range 3) 0 [.fz sc, .fz (.int (k : Int)), .own d, s3, s4, s5, s6] ⟨d, s3, rfl, h3, by simpa using hd⟩ (by simp)
    (fun c i γ _ hc hJ => by
      obtain ⟨d, t3, rfl, ht3, hd⟩ := hJ
      obtain ⟨d', e, hd'⟩ := H.rt _ d hd (by omega)
      have q := call_right (a := .fz sc) (b := .fz (.int (k : Int))) (rest := [.fz (.int (0 + (i : Nat))), s4, s5, s6]) e
      refine ⟨[.fz sc, .fz (.int (k : Int)), .own d, .fz (.int (0 + (i : Nat))), s4, s5, s6], [.fz sc, .fz (.int (k : Int)), .own d', .fz (.int (0 + (i : Nat))), s4, s5, s6], nonio_set (t := t3) rfl ht3, ?_, d', _, rfl, rfl, hd'.mono (by push_cast; omega)⟩
      generalize eCallN 1 FRt (aCons (oSl 2) aNil) = mm at q ⊢
      refine (seq_nx ((if_f (γ1 := [.fz sc, .fz (.int (k : Int)), .own d', .fz (.int (0 + (i : Nat))), s4, s5, s6]) ?_).trans rfl)).trans rfl
      simp only [bNot, toT, q, Out.bind, Bool.not_true])
  have n2 : sFor (mRng1 (aCons (fO (eC (.int 3))) aNil)) (gNm 3) (sSeq (sIf (bNot (toT (eCallN 1 FRt (aCons (oSl 2) aNil)))) (sSeq (sRet (eC (.bl false))) sNx) sNx) sNx) [.fz sc, .fz (.int (k : Int)), .own d, s3, s4, s5, s6] = .nx [.fz sc, .fz (.int (k : Int)), .own d2, t3, s4, s5, s6] := by
    unfold sFor
    rw [rng1_ok (ms := aCons (fO (eC (.int 3))) aNil) (as := [.d (.int 3)]) (n := 3) rfl rfl rfl (by decide)]
    exact e2
  obtain ⟨k1, d3, e3, hd3, k10, k11⟩ := H.ro _ d2 5 hd2 (by simp) (by decide) (by decide)
  obtain ⟨n, hn⟩ : ∃ n : Nat, (1 + k1) = (n : Int) := ⟨(1 + k1).toNat, by omega⟩
  have n3 : sSet 4 (eOp fAdd (fO (eC (.int 1))) (fO (eCallN 2 FRo (aCons (oSl 2) (aCons (fO (eC (.int 5))) aNil))))) [.fz sc, .fz (.int (k : Int)), .own d2, t3, s4, s5, s6] = .nx [.fz sc, .fz (.int (k : Int)), .own d3, t3, .fz (.int (n : Int)), s5, s6] := by
    have c := call_roll (F := FRo) (m := fO (eC (.int 5))) (a := .fz sc) (b := .fz (.int (k : Int))) (rest := [t3, s4, s5, s6]) rfl e3
    generalize eCallN 2 FRo (aCons (oSl 2) (aCons (fO (eC (.int 5))) aNil)) = mm at c ⊢
    refine set_ok (γ1 := [.fz sc, .fz (.int (k : Int)), .own d3, t3, s4, s5, s6]) (r := .fz (.int (n : Int))) ?_ (nonio_set (t := s4) rfl h4)
    rw [← hn]
    simp only [fnB, sSeq, sNx, sIf, sRet, sRetN, sSet, sSetIx, sExpr, Out.toS, Out.bind, Out.bindN, eOp, eCall, aCons, aNil, look, looks, slD, fO, eRd, eMv, oSl, eC, ofB, BR.out, nxO, stG, R.sl, Sl.isIo, eAnd, eOr, eNot, bAnd, bOr, bNot, toT, eTup, eLst, dsOf, fI, fIc, Sl.lst, Sl.putL, ioOut, List.replicate, List.cons_append, List.nil_append, List.getElem?_cons_zero, List.getElem?_cons_succ, List.set_cons_zero, List.set_cons_succ, eCallN, mkArgs, mkArg, mkSl, disA, slIn, putArgs, reSl, eChain, eIf, eNeg, c, fAdd]
  obtain ⟨γ', e4, t5, rfl, ht5⟩ := loopS_map (S := Unit) (f := gNm 5) (b := sSeq (sIf (toT (eOp (fEq true) (fO (eListG 2 FMR (aCons (fO (eRd 4)) (aCons (fO (eRd 5)) aNil)))) (fO (eCallN 2 FLM (aCons (fO (eRd 4)) (aCons (fO (eRd 5)) aNil)))))) (sSeq (sRet (eC (.bl false))) sNx) sNx) sNx) (fun i : Nat => D.int (0 + (i : Nat))) (fun _ γ => ∃ t5, γ = [.fz sc, .fz (.int (k : Int)), .own d3, t3, .fz (.int (n : Int)), t5, s6] ∧ t5.isIo = false) (fun s _ => s) (List.range n) () [.fz sc, .fz (.int (k : Int)), .own d3, t3, .fz (.int (n : Int)), s5, s6] ⟨s5, rfl, h5⟩
    (fun _ i γ hi hJ => by
      obtain ⟨t5, rfl, ht5⟩ := hJ
      have hi' := List.mem_range.mp hi
      have q := cmp_nx H (n := n) (m := i) (by omega) (by omega) hi' (.fz sc) (.fz (.int (k : Int))) (.own d3) t3 [s6]
      have ei : (0 + (i : Int)) = (i : Int) := by omega
      refine ⟨[.fz sc, .fz (.int (k : Int)), .own d3, t3, .fz (.int (n : Int)), .fz (.int (i : Int)), s6], _, ?_, (seq_nx q).trans rfl, _, rfl, rfl⟩
      rw [ei]
      exact nonio_set (t := t5) rfl ht5)
  have n4 : sFor (mRng1 (aCons (oSl 4) aNil)) (gNm 5) (sSeq (sIf (toT (eOp (fEq true) (fO (eListG 2 FMR (aCons (fO (eRd 4)) (aCons (fO (eRd 5)) aNil)))) (fO (eCallN 2 FLM (aCons (fO (eRd 4)) (aCons (fO (eRd 5)) aNil)))))) (sSeq (sRet (eC (.bl false))) sNx) sNx) sNx) [.fz sc, .fz (.int (k : Int)), .own d3, t3, .fz (.int (n : Int)), s5, s6] = .nx [.fz sc, .fz (.int (k : Int)), .own d3, t3, .fz (.int (n : Int)), t5, s6] := by
    unfold sFor
    rw [rng1_ok (ms := aCons (oSl 4) aNil) (as := [.sl 4]) (i := (n : Int)) (n := n) rfl rfl rfl (by omega)]
    exact e4
  obtain ⟨k2, d4, e5, hd4, k20, k21⟩ := H.ro _ d3 6 hd3 (by simp) (by decide) (by decide)
  obtain ⟨m, hm⟩ : ∃ m : Nat, k2 = (m : Int) := ⟨k2.toNat, by omega⟩
  subst hm
  have n5 : sPar2 4 5 (eC (.int 6)) (eCallN 2 FRo (aCons (oSl 2) (aCons (fO (eC (.int 6))) aNil))) [.fz sc, .fz (.int (k : Int)), .own d3, t3, .fz (.int (n : Int)), t5, s6] = .nx [.fz sc, .fz (.int (k : Int)), .own d4, t3, .fz (.int ((6 : Nat) : Int)), .fz (.int (m : Int)), s6] := by
    have c := call_roll (F := FRo) (m := fO (eC (.int 6))) (a := .fz sc) (b := .fz (.int (k : Int))) (rest := [t3, .fz (.int (n : Int)), t5, s6]) rfl e5
    generalize eCallN 2 FRo (aCons (oSl 2) (aCons (fO (eC (.int 6))) aNil)) = mm at c ⊢
    have q5 := nonio_set (i := 5) (s := .fz (.int (m : Int))) (γ := [.fz sc, .fz (.int (k : Int)), .own d4, t3, .fz (.int 6), t5, s6]) (t := t5) rfl ht5
    show ((mm [.fz sc, .fz (.int (k : Int)), .own d3, t3, .fz (.int (n : Int)), t5, s6]).toS fun r2 γ2 => match stG 4 (.fz (.int 6)) γ2 with
      | some γ3 => nxO (stG 5 r2.sl γ3)
      | none => .bad) = _
    rw [c]
    show nxO (stG 5 (.fz (.int (m : Int))) [.fz sc, .fz (.int (k : Int)), .own d4, t3, .fz (.int 6), t5, s6]) = _
    rw [q5]
    rfl
  have n6 := cmp_nx H (n := 6) (m := m) (by decide) (by decide) (by omega) (.fz sc) (.fz (.int (k : Int))) (.own d4) t3 [s6]
  refine ⟨.own d4, t3, .fz (.int ((6 : Nat) : Int)), .fz (.int (m : Int)), ?_, rfl, ht3, rfl, rfl⟩
  rw [seq_nx n1, seq_nx n2, seq_nx n3, seq_nx n4, seq_nx n5, seq_nx n6]
  rfl
theorem sum21 : ((rowsL 4).map fun r => ((climbsL r).length : Int)).sum = 21 := by decide +kernel
theorem law_gen (ns : List Int) (H : LH (.frz (intD ns)) FD FRt FRo FLM FA FCl FMR) : fnB 6 (bodyL FD FRt FRo FLM FA FCl FMR) [.fz (.frz (intD ns))] = .ok (.fz (.bl true)) [.fz (.frz (intD ns))] := by
  generalize hi0 : (if ((if ((intD ns).length : Int) < 4 then ((intD ns).length : Int) else 4)) > 1 then (if ((intD ns).length : Int) < 4 then ((intD ns).length : Int) else 4) else 1 : Int) = i0
  have b1 : 1 ≤ i0 ∧ i0 ≤ 4 := by
    rw [← hi0]
    split <;> split <;> constructor <;> omega
  obtain ⟨N, hN⟩ : ∃ N : Nat, i0 = (N : Int) := ⟨i0.toNat, by omega⟩
  have hms : (aCons (fO (eCall bMax2 (aCons (fO (eC (.int 1))) (aCons (fO (eCall bMin2 (aCons (fO (eC (.int 4))) (aCons (fO (eCall bLen (aCons (oSl 0) aNil))) aNil)))) aNil)))) aNil) [.fz (.frz (intD ns)), .un, .un, .un, .un, .un, .un] = .ok [.d (.int i0)] [.fz (.frz (intD ns)), .un, .un, .un, .un, .un, .un] := by
    rw [← hi0]
    rfl
  obtain ⟨γ', e, t1, t2, t3, t4, t5, rfl, h1, h2, h3, h4, h5⟩ := loopS_map (S := Unit) (f := gNm 1) (b := (sSeq (sSet 2 (eCallN 2 FD (aCons (fO (eRd 0)) (aCons (fO (eRd 1)) aNil)))) (sSeq (sFor (mRng1 (aCons (fO (eC (.int 3))) aNil)) (gNm 3) (sSeq (sIf (bNot (toT (eCallN 1 FRt (aCons (oSl 2) aNil)))) (sSeq (sRet (eC (.bl false))) sNx) sNx) sNx)) (sSeq (sSet 4 (eOp fAdd (fO (eC (.int 1))) (fO (eCallN 2 FRo (aCons (oSl 2) (aCons (fO (eC (.int 5))) aNil)))))) (sSeq (sFor (mRng1 (aCons (oSl 4) aNil)) (gNm 5) (sSeq (sIf (toT (eOp (fEq true) (fO (eListG 2 FMR (aCons (fO (eRd 4)) (aCons (fO (eRd 5)) aNil)))) (fO (eCallN 2 FLM (aCons (fO (eRd 4)) (aCons (fO (eRd 5)) aNil)))))) (sSeq (sRet (eC (.bl false))) sNx) sNx) sNx)) (sSeq (sPar2 4 5 (eC (.int 6)) (eCallN 2 FRo (aCons (oSl 2) (aCons (fO (eC (.int 6))) aNil)))) (sSeq (sIf (toT (eOp (fEq true) (fO (eListG 2 FMR (aCons (fO (eRd 4)) (aCons (fO (eRd 5)) aNil)))) (fO (eCallN 2 FLM (aCons (fO (eRd 4)) (aCons (fO (eRd 5)) aNil)))))) (sSeq (sRet (eC (.bl false))) sNx) sNx) sNx))))))) (fun i : Nat => D.int (0 + (i : Nat))) (fun _ γ => ∃ t1 t2 t3 t4 t5, γ = [.fz (.frz (intD ns)), t1, t2, t3, t4, t5, .un] ∧ t1.isIo = false ∧ t2.isIo = false ∧ t3.isIo = false ∧ t4.isIo = false ∧ t5.isIo = false) (fun s _ => s) (List.range N) () [.fz (.frz (intD ns)), .un, .un, .un, .un, .un, .un] ⟨_, _, _, _, _, rfl, rfl, rfl, rfl, rfl, rfl⟩
    (fun _ k γ hk hJ => by
      obtain ⟨t1, t2, t3, t4, t5, rfl, h1, h2, h3, h4, h5⟩ := hJ
      have hk' := List.mem_range.mp hk
      obtain ⟨u2, u3, u4, u5, q, v2, v3, v4, v5⟩ := cell_ok H k (by omega) t2 t3 t4 t5 .un h2 h3 h4 h5
      have ei : (0 + (k : Int)) = (k : Int) := by omega
      refine ⟨[.fz (.frz (intD ns)), .fz (.int (k : Int)), t2, t3, t4, t5, .un], _, ?_, q, _, _, _, _, _, rfl, rfl, v2, v3, v4, v5⟩
      rw [ei]
      exact nonio_set (t := t1) rfl h1)
  have n1 : sFor (mRng1 (aCons (fO (eCall bMax2 (aCons (fO (eC (.int 1))) (aCons (fO (eCall bMin2 (aCons (fO (eC (.int 4))) (aCons (fO (eCall bLen (aCons (oSl 0) aNil))) aNil)))) aNil)))) aNil)) (gNm 1) (sSeq (sSet 2 (eCallN 2 FD (aCons (fO (eRd 0)) (aCons (fO (eRd 1)) aNil)))) (sSeq (sFor (mRng1 (aCons (fO (eC (.int 3))) aNil)) (gNm 3) (sSeq (sIf (bNot (toT (eCallN 1 FRt (aCons (oSl 2) aNil)))) (sSeq (sRet (eC (.bl false))) sNx) sNx) sNx)) (sSeq (sSet 4 (eOp fAdd (fO (eC (.int 1))) (fO (eCallN 2 FRo (aCons (oSl 2) (aCons (fO (eC (.int 5))) aNil)))))) (sSeq (sFor (mRng1 (aCons (oSl 4) aNil)) (gNm 5) (sSeq (sIf (toT (eOp (fEq true) (fO (eListG 2 FMR (aCons (fO (eRd 4)) (aCons (fO (eRd 5)) aNil)))) (fO (eCallN 2 FLM (aCons (fO (eRd 4)) (aCons (fO (eRd 5)) aNil)))))) (sSeq (sRet (eC (.bl false))) sNx) sNx) sNx)) (sSeq (sPar2 4 5 (eC (.int 6)) (eCallN 2 FRo (aCons (oSl 2) (aCons (fO (eC (.int 6))) aNil)))) (sSeq (sIf (toT (eOp (fEq true) (fO (eListG 2 FMR (aCons (fO (eRd 4)) (aCons (fO (eRd 5)) aNil)))) (fO (eCallN 2 FLM (aCons (fO (eRd 4)) (aCons (fO (eRd 5)) aNil)))))) (sSeq (sRet (eC (.bl false))) sNx) sNx) sNx)))))) [.fz (.frz (intD ns)), .un, .un, .un, .un, .un, .un] = .nx [.fz (.frz (intD ns)), t1, t2, t3, t4, t5, .un] := by
    unfold sFor
    rw [rng1_ok (ms := (aCons (fO (eCall bMax2 (aCons (fO (eC (.int 1))) (aCons (fO (eCall bMin2 (aCons (fO (eC (.int 4))) (aCons (fO (eCall bLen (aCons (oSl 0) aNil))) aNil)))) aNil)))) aNil)) (i := i0) (n := N) hms rfl hN (by omega)]
    exact e
  unfold bodyL
  refine (fnB_rt (γ := [.fz (.frz (intD ns)), t1, t2, t3, t4, t5, .un]) (r := .fz (.bl true)) ?_).trans rfl
  show sSeq _ _ [.fz (.frz (intD ns)), .un, .un, .un, .un, .un, .un] = _
  rw [seq_nx n1]
  refine seq_rt (ret_ok ?_)
  obtain ⟨ds, f1, f2⟩ := H.fin
  have c1 := listG_2 (F := FMR) (m1 := fO (eC (.int 4))) (m2 := fO (eC (.int 1))) (γ := [.fz (.frz (intD ns)), t1, t2, t3, t4, t5, .un]) rfl rfl f1
  have ca := callN_1 (F := FA) (m1 := fO (eC (.int 4))) (γ := [.fz (.frz (intD ns)), t1, t2, t3, t4, t5, .un]) rfl H.area
  have c2 := eLc_map (mi := mIter (fO (eCallN 1 FA (aCons (fO (eC (.int 4))) aNil)))) (vs := [6]) (f := gNm 6) (t := mYes) (e := fO (eCall bLen (aCons (fO (eCallN 1 FCl (aCons (fO (eRd 6)) aNil))) aNil))) (γ := [.fz (.frz (intD ns)), t1, t2, t3, t4, t5, .un])
    rowD (fun r => [.fz (.frz (intD ns)), t1, t2, t3, t4, t5, .fz (rowD r)]) (fun _ => true) (fun r => D.int ((climbsL r).length : Int)) (rowsL 4)
    (by
      generalize eCallN 1 FA (aCons (fO (eC (.int 4))) aNil) = mm at ca ⊢
      simp only [mIter, fO, ca, Out.bind]) rfl (fun _ _ => rfl) (fun _ _ => rfl) (fun r hr _ => by
      have cc := callN_1 (F := FCl) (m1 := fO (eRd 6)) (γ := [.fz (.frz (intD ns)), t1, t2, t3, t4, t5, .fz (rowD r)]) rfl (H.cl r hr)
      generalize eCallN 1 FCl (aCons (fO (eRd 6)) aNil) = mm at cc ⊢
      simp only [fnB, sSeq, sNx, sIf, sRet, sRetN, sSet, sSetIx, sExpr, Out.toS, Out.bind, Out.bindN, eOp, eCall, aCons, aNil, look, looks, slD, fO, eRd, eMv, oSl, eC, ofB, BR.out, nxO, stG, R.sl, Sl.isIo, eAnd, eOr, eNot, bAnd, bOr, bNot, toT, eTup, eLst, dsOf, fI, fIc, Sl.lst, Sl.putL, ioOut, List.replicate, List.cons_append, List.nil_append, List.getElem?_cons_zero, List.getElem?_cons_succ, List.set_cons_zero, List.set_cons_succ, eCallN, mkArgs, mkArg, mkSl, disA, slIn, putArgs, reSl, eChain, eIf, eNeg, cc, bLen, intD_len]) (fun _ _ => rfl) (by decide +kernel)
  rw [filter_yes, intD_of] at c2
  have hs : bSum [.lst (intD ((rowsL 4).map fun r => ((climbsL r).length : Int)))] = some (.val (.int 21)) := by
    unfold bSum
    dsimp only
    rw [intsOf_intD]
    dsimp only
    rw [sum21]
  generalize (intD ((rowsL 4).map fun r => ((climbsL r).length : Int))) = L at c2 hs
  generalize eListG 2 FMR (aCons (fO (eC (.int 4))) (aCons (fO (eC (.int 1))) aNil)) = m1 at c1 ⊢
  generalize eLc _ [6] _ _ _ = m2 at c2 ⊢
  have q := fEq_int false 21 21
  rw [decide_eq_true rfl] at q
  simp only [Bool.false_eq_true, if_false] at q
  have f3 : (ds.length : Int) = 21 := by rw [f2]; rfl
  simp only [fnB, sSeq, sNx, sIf, sRet, sRetN, sSet, sSetIx, sExpr, Out.toS, Out.bind, Out.bindN, eOp, eCall, aCons, aNil, look, looks, slD, fO, eRd, eMv, oSl, eC, ofB, BR.out, nxO, stG, R.sl, Sl.isIo, eAnd, eOr, eNot, bAnd, bOr, bNot, toT, eTup, eLst, dsOf, fI, fIc, Sl.lst, Sl.putL, ioOut, List.replicate, List.cons_append, List.nil_append, List.getElem?_cons_zero, List.getElem?_cons_succ, List.set_cons_zero, List.set_cons_succ, eCallN, mkArgs, mkArg, mkSl, disA, slIn, putArgs, reSl, eChain, eIf, eNeg, c1, c2, bLen, hs, f3, q]
end
end T

-- text V20
set_option Elab.async false
set_option linter.all false
set_option maxRecDepth 100000
set_option maxHeartbeats 0
namespace Hd
open PySem PySem.Spec PyProof.Rows L2
abbrev top (i : Nat) : Stmt := T.top i
def d_is_whole_number : He.DefD := ⟨("is_whole_number", none), "is_whole_number", "is_whole_number", defArgs (top 5), defBody (top 5), defScope (top 5), [], []⟩
def d_is_within : He.DefD := ⟨("is_within", none), "is_within", "is_within", defArgs (top 6), defBody (top 6), defScope (top 6), [], []⟩
def d_area_rows_in : He.DefD := ⟨("area_rows_in", none), "area_rows_in", "area_rows_in", defArgs (top 9), defBody (top 9), defScope (top 9), [], []⟩
def d_is_area_row_in : He.DefD := ⟨("is_area_row_in", none), "is_area_row_in", "is_area_row_in", defArgs (top 10), defBody (top 10), defScope (top 10), [], []⟩
def d_does_climb : He.DefD := ⟨("does_climb", none), "does_climb", "does_climb", defArgs (top 11), defBody (top 11), defScope (top 11), [], []⟩
def d_is_labelled_in : He.DefD := ⟨("is_labelled_in", none), "is_labelled_in", "is_labelled_in", defArgs (top 12), defBody (top 12), defScope (top 12), [], []⟩
def d_index_pairs : He.DefD := ⟨("index_pairs", none), "index_pairs", "index_pairs", defArgs (top 13), defBody (top 13), defScope (top 13), [], []⟩
def d_dinv_along : He.DefD := ⟨("dinv_along", none), "dinv_along", "dinv_along", defArgs (top 14), defBody (top 14), defScope (top 14), [], []⟩
def d_path_counts_in : He.DefD := ⟨("path_counts_in", none), "path_counts_in", "path_counts_in", defArgs (top 15), defBody (top 15), defScope (top 15), [], []⟩
def d_require_row : He.DefD := ⟨("require_row", none), "require_row", "require_row", defArgs (top 16), defBody (top 16), defScope (top 16), [], []⟩
def d_rises_in : He.DefD := ⟨("rises_in", none), "rises_in", "rises_in", defArgs (top 19), defBody (top 19), defScope (top 19), [], []⟩
def d_tuples_from : He.DefD := ⟨("tuples_from", none), "tuples_from", "tuples_from", defArgs (top 20), defBody (top 20), defScope (top 20), [], []⟩
def d_are_marks_in : He.DefD := ⟨("are_marks_in", none), "are_marks_in", "are_marks_in", defArgs (top 21), defBody (top 21), defScope (top 21), [], []⟩
def d_marked_pairs_in : He.DefD := ⟨("marked_pairs_in", none), "marked_pairs_in", "marked_pairs_in", defArgs (top 22), defBody (top 22), defScope (top 22), [], []⟩
def d_marked_entries : He.DefD := ⟨("marked_entries", none), "marked_entries", "marked_entries", defArgs (top 23), defBody (top 23), defScope (top 23), [], []⟩
def d_require_marks : He.DefD := ⟨("require_marks", none), "require_marks", "require_marks", defArgs (top 24), defBody (top 24), defScope (top 24), [], []⟩
def d_require_size_and_many : He.DefD := ⟨("require_size_and_many", none), "require_size_and_many", "require_size_and_many", defArgs (top 25), defBody (top 25), defScope (top 25), [], []⟩
def d_rises : He.DefD := ⟨("rises", none), "rises", "rises", defArgs (top 26), defBody (top 26), defScope (top 26), [], []⟩
def d_are_marks : He.DefD := ⟨("are_marks", none), "are_marks", "are_marks", defArgs (top 27), defBody (top 27), defScope (top 27), [], []⟩
def d_marked_rows : He.DefD := ⟨("marked_rows", none), "marked_rows", "marked_rows", defArgs (top 28), defBody (top 28), defScope (top 28), [], []⟩
def d_marked_counts : He.DefD := ⟨("marked_counts", none), "marked_counts", "marked_counts", defArgs (top 29), defBody (top 29), defScope (top 29), [], []⟩
def d_law_dice : He.DefD := ⟨("_law_dice", none), "_law_dice", "_law_dice", defArgs (top 31), defBody (top 31), defScope (top 31), [], []⟩
def d_law_roll : He.DefD := ⟨("_law_roll", none), "_law_roll", "_law_roll", defArgs (top 32), defBody (top 32), defScope (top 32), [], []⟩
def d_law_one_of : He.DefD := ⟨("_law_one_of", none), "_law_one_of", "_law_one_of", defArgs (top 33), defBody (top 33), defScope (top 33), [], []⟩
def d_law_mixed : He.DefD := ⟨("_law_mixed", none), "_law_mixed", "_law_mixed", defArgs (top 34), defBody (top 34), defScope (top 34), [], []⟩
def d_law_path_counts : He.DefD := ⟨("_law_path_counts", none), "_law_path_counts", "_law_path_counts", defArgs (top 35), defBody (top 35), defScope (top 35), [], []⟩
def d_law_area_rows : He.DefD := ⟨("_law_area_rows", none), "_law_area_rows", "_law_area_rows", defArgs (top 36), defBody (top 36), defScope (top 36), [], []⟩
def d_law_climbs : He.DefD := ⟨("_law_climbs", none), "_law_climbs", "_law_climbs", defArgs (top 37), defBody (top 37), defScope (top 37), [], []⟩
def d_law_lots_from : He.DefD := ⟨("_law_lots_from", none), "_law_lots_from", "_law_lots_from", defArgs (top 38), defBody (top 38), defScope (top 38), [], []⟩
def d_law_marked_rows : He.DefD := ⟨("_law_marked_rows", none), "_law_marked_rows", "_law_marked_rows", defArgs (top 39), defBody (top 39), defScope (top 39), [], []⟩
def d_law_is_lot : He.DefD := ⟨("_law_is_lot", none), "_law_is_lot", "_law_is_lot", defArgs (top 40), defBody (top 40), defScope (top 40), [], []⟩
def d_law_near_lots : He.DefD := ⟨("_law_near_lots", none), "_law_near_lots", "_law_near_lots", defArgs (top 41), defBody (top 41), defScope (top 41), [], []⟩
def d_law_right : He.DefD := ⟨("_law_right", none), "_law_right", "_law_right", defArgs (top 42), defBody (top 42), defScope (top 42), [], []⟩
def d_law : He.DefD := ⟨("law", none), "law", "law", defArgs (top 43), defBody (top 43), defScope (top 43), [], []⟩
def fn0 : List He.DefD := [d_is_whole_number, d_is_within, d_area_rows_in, d_is_area_row_in, d_does_climb, d_is_labelled_in, d_index_pairs, d_dinv_along, d_path_counts_in, d_require_row, d_rises_in, d_tuples_from, d_are_marks_in, d_marked_pairs_in, d_marked_entries, d_require_marks, d_require_size_and_many, d_rises, d_are_marks, d_marked_rows]
def fn1 : List He.DefD := [d_marked_counts, d_law_dice, d_law_roll, d_law_one_of, d_law_mixed, d_law_path_counts, d_law_area_rows, d_law_climbs, d_law_lots_from, d_law_marked_rows, d_law_is_lot, d_law_near_lots, d_law_right, d_law]
def fn : List He.DefD := fn0 ++ fn1
def fa0 : List He.Fa := [.glo "is_whole_number", .glo "is_within", .glo "area_rows_in", .glo "is_area_row_in", .glo "does_climb", .glo "is_labelled_in", .glo "index_pairs", .glo "dinv_along", .glo "path_counts_in", .glo "require_row", .glo "rises_in", .glo "tuples_from", .glo "are_marks_in", .glo "marked_pairs_in", .glo "marked_entries", .glo "require_marks", .glo "require_size_and_many", .glo "rises", .glo "are_marks", .glo "marked_rows"]
def fa1 : List He.Fa := [.glo "marked_counts", .glo "_law_dice", .glo "_law_roll", .glo "_law_one_of", .glo "_law_mixed", .glo "_law_path_counts", .glo "_law_area_rows", .glo "_law_climbs", .glo "_law_lots_from", .glo "_law_marked_rows", .glo "_law_is_lot", .glo "_law_near_lots", .glo "_law_right", .glo "law", .glo "ArmError", .glo "InvalidPath", .glo "InvalidNumber", .free "len", .free "range", .free "tuple"]
def fa2 : List He.Fa := [.free "list", .free "zip", .free "enumerate", .free "all", .free "sum", .free "set", .free "sorted", .free "isinstance", .free "int", .free "bool", .free "abs", .free "repr", .free "min", .free "max", .free "super", .int "MOST_ENTRIES" 6, .int "MOST_ROWED" 6]
def fa : List He.Fa := fa0 ++ fa1 ++ fa2
abbrev R : PySem.W.OpenRow := PySem.W.OpenLaw.row PySem.Challenge.rw_armrises_k76_whole_rises_marks_and_marke
abbrev qv : Program := PySem.W.view R.prog [43]
abbrev hk : PySem.W.Hook := He.hookD 5 fa fn
def ob (s : PySem.W.SharedT) : He.AlD := He.obsDG 5 fa fn (HandSHeadRun.getT s)
theorem ob_eq (s : PySem.W.SharedT) : ob s = hk.obs s.abs := He.obsDG_eq (HandSHeadRun.getT_eq s)
def names0 : List PySem.Str := ["ArmError", "InvalidPath", "InvalidNumber", "is_whole_number", "is_within", "MOST_ENTRIES", "area_rows_in", "is_area_row_in", "does_climb", "is_labelled_in", "index_pairs", "dinv_along", "path_counts_in", "require_row", "MOST_ROWED", "rises_in", "tuples_from", "are_marks_in", "marked_pairs_in", "marked_entries"]
def names1 : List PySem.Str := ["require_marks", "require_size_and_many", "rises", "are_marks", "marked_rows", "marked_counts", "_law_dice", "_law_roll", "_law_one_of", "_law_mixed", "_law_path_counts", "_law_area_rows", "_law_climbs", "_law_lots_from", "_law_marked_rows", "_law_is_lot", "_law_near_lots", "_law_right"]
def names : List PySem.Str := names0 ++ names1
theorem run (w : World) : HandSHeadRun.RunEq R qv hk ob 6000 names w := by
  intro os
  kernel_rfl
end Hd
namespace T
open PySem L2
theorem pair_of {n m : Int} (h : pairSame n m = true) : ∃ ds es, B_marked_rows [.fz (.int n), .fz (.int m)] = .ok ds [.fz (.int n), .fz (.int m)] ∧ B_law_marked_rows [.fz (.int n), .fz (.int m)] = .ok (.own (.lst es)) [.fz (.int n), .fz (.int m)] ∧ fEq true (.lst ds) (.lst es) = some (.val (.bl false)) := by
  unfold pairSame at h
  split at h
  · rename_i ds a b es c d e1 e2
    obtain ⟨k1, hA⟩ := and2 h
    obtain ⟨k2, hB⟩ := and2 hA
    obtain ⟨k3, hC⟩ := and2 hB
    obtain ⟨k4, hD⟩ := and2 hC
    clear h hA hB hC
    have k1 := of_decide_eq_true k1
    have k2 := of_decide_eq_true k2
    have k3 := of_decide_eq_true k3
    have k4 := of_decide_eq_true k4
    rw [k1, k2] at e1
    rw [k3, k4] at e2
    refine ⟨ds, es, e1, e2, ?_⟩
    clear e1 e2
    split at hD
    · rename_i hq; exact hq
    · exact absurd hD Bool.false_ne_true
  · exact absurd h Bool.false_ne_true
theorem same_ok (n m : Nat) (h1 : 1 ≤ n) (h2 : n ≤ 6) (h3 : m < n) : pairSame (n : Int) (m : Int) = true := by
  have hn : n = 1 ∨ n = 2 ∨ n = 3 ∨ n = 4 ∨ n = 5 ∨ n = 6 := by omega
  rcases hn with rfl | rfl | rfl | rfl | rfl | rfl
  · have : m = 0 := by omega
    subst this
    exact same_1
  · exact all_at same_2 (show (m : Int) ∈ [0, 1] by simp; omega)
  · exact all_at same_3 (show (m : Int) ∈ [0, 1, 2] by simp; omega)
  · exact all_at same_4 (show (m : Int) ∈ [0, 1, 2, 3] by simp; omega)
  · exact all_at same_5 (show (m : Int) ∈ [0, 1, 2, 3, 4] by simp; omega)
  · have hm : m = 0 ∨ m = 1 ∨ m = 2 ∨ m = 3 ∨ m = 4 ∨ m = 5 := by omega
    rcases hm with rfl | rfl | rfl | rfl | rfl | rfl
    · exact same_60
    · exact same_61
    · exact same_62
    · exact same_63
    · exact same_64
    · exact same_65
def gen21 : Bool := match B_marked_rows [.fz (.int 4), .fz (.int 1)] with
  | .ok ds _ => Nat.beq ds.length 21
  | _ => false
theorem gen21_ok : gen21 = true := by decide +kernel
theorem theLH (ns : List Int) : LH (.frz (intD ns)) F_law_dice F_law_right F_law_roll F_law_marked_rows F_law_area_rows F_law_climbs F_marked_rows where
  di := fun k hk => dice_ok ns k hk
  rt := fun m d hd hm => right_ok hd hm
  ro := rolls
  sm := fun n m h1 h2 h3 => pair_of (same_ok n m h1 h2 h3)
  fin := by
    obtain ⟨ds, es, e1, _, _⟩ := pair_of (same_ok 4 1 (by decide) (by decide) (by decide))
    have g := gen21_ok
    unfold gen21 at g
    have e1' : B_marked_rows [.fz (.int 4), .fz (.int 1)] = .ok ds [.fz (.int 4), .fz (.int 1)] := e1
    rw [e1'] at g
    exact ⟨ds, e1', Nat.eq_of_beq_eq_true g⟩
  area := (area_ok 4 (by decide) (by decide)).1
  cl := fun r hr => by
    have c := row_chk (n := 4) (by decide) (by decide) hr
    unfold rowChk at c
    obtain ⟨k1, c⟩ := and2 c
    obtain ⟨k2, c⟩ := and2 c
    obtain ⟨k3, c⟩ := and2 c
    exact chk_ok k3
theorem law_ok (ns : List Int) : B_law [.fz (.frz (intD ns))] = .ok (.fz (.bl true)) [.fz (.frz (intD ns))] := law_gen ns (theLH ns)
theorem okf_law {P : Program} {w : World} {K : PySem.W.Frag} {mg : Str → Option Value} {base : Heap} {f : Addr} {fd : FuncData} (B : Blt mg) (FP : FnP K "law" 43 f fd) (H_marked_rows : HasG P w K mg base 4 "marked_rows" 2 F_marked_rows) (H_law_area_rows : Has P w K mg base 1 "_law_area_rows" 1 F_law_area_rows) (H_law_climbs : Has P w K mg base 1 "_law_climbs" 1 F_law_climbs) (H_law_marked_rows : Has P w K mg base 2 "_law_marked_rows" 2 F_law_marked_rows) (H_law_roll : Has P w K mg base 1 "_law_roll" 2 F_law_roll) (H_law_right : Has P w K mg base 7 "_law_right" 1 F_law_right) (H_law_dice : Has P w K mg base 1 "_law_dice" 2 F_law_dice) : FnOk P w K mg base CX0 8 f fd ["script"] (spT (tb K w) 1 B_law) := by
  obtain ⟨f_marked_rows, fd_marked_rows, ps_marked_rows, O_marked_rows, g_marked_rows, k_marked_rows, b_marked_rows⟩ := H_marked_rows.ex
  obtain ⟨f_law_area_rows, fd_law_area_rows, ps_law_area_rows, O_law_area_rows, g_law_area_rows, k_law_area_rows, b_law_area_rows⟩ := H_law_area_rows.ex
  obtain ⟨f_law_climbs, fd_law_climbs, ps_law_climbs, O_law_climbs, g_law_climbs, k_law_climbs, b_law_climbs⟩ := H_law_climbs.ex
  obtain ⟨f_law_marked_rows, fd_law_marked_rows, ps_law_marked_rows, O_law_marked_rows, g_law_marked_rows, k_law_marked_rows, b_law_marked_rows⟩ := H_law_marked_rows.ex
  obtain ⟨f_law_roll, fd_law_roll, ps_law_roll, O_law_roll, g_law_roll, k_law_roll, b_law_roll⟩ := H_law_roll.ex
  obtain ⟨f_law_right, fd_law_right, ps_law_right, O_law_right, g_law_right, k_law_right, b_law_right⟩ := H_law_right.ex
  obtain ⟨f_law_dice, fd_law_dice, ps_law_dice, O_law_dice, g_law_dice, k_law_dice, b_law_dice⟩ := H_law_dice.ex
  have nd := sc_law.nd
  refine FP.ok (N := N_law) sc_law (fun vs H Q E h => h.1) (fun cdv A outer s H vs Q E hr h => ⟨_, PSs.nox ?_, fn_reads (N := N_law) (m := 6) rfl vs Q E h⟩)
  exact (tps_cons (fr PassesOwn.never rfl (r1 B.range (a1 (to_val (cb (call_max2 rfl) ok_max2 B.max rfl (a1 (to_val cI) (a1 (to_val (cb (call_min2 rfl) ok_min2 B.min rfl (a1 (to_val cI) (a1 (to_val (cb call_len_seq (ok_len rfl) B.len rfl (a1 (sl 0) tpa_nil))) tpa_nil)))) tpa_nil)))) tpa_nil)) (gn 1 nd) (tps_cons (stv 2 nd (cu O_law_dice hr g_law_dice k_law_dice b_law_dice (a1 (to_val (rd 0)) (a1 (to_val (rd 1)) tpa_nil)))) (tps_cons (fr PassesOwn.never rfl (r1 B.range (a1 (to_val cI) tpa_nil)) (gn 3 nd) (tps_cons (tps_if (tpt_not (tv (cu O_law_right hr g_law_right k_law_right b_law_right (a1 (sl 2) tpa_nil)))) (tps_cons (tps_ret cB) tps_nil) tps_nil) tps_nil)) (tps_cons (stv 4 nd (tpe_op op_addA (ok_add rfl) (to_val cI) (to_val (cu O_law_roll hr g_law_roll k_law_roll b_law_roll (a1 (sl 2) (a1 (to_val cI) tpa_nil)))))) (tps_cons (fr PassesOwn.never rfl (r1 B.range (a1 (sl 4) tpa_nil)) (gn 5 nd) (tps_cons (tps_if (cmT (op_neD hr.units) (ok_ne rfl) (to_val (cg O_marked_rows hr g_marked_rows k_marked_rows b_marked_rows B.list (a1 (to_val (rd 4)) (a1 (to_val (rd 5)) tpa_nil)))) (to_val (cu O_law_marked_rows hr g_law_marked_rows k_law_marked_rows b_law_marked_rows (a1 (to_val (rd 4)) (a1 (to_val (rd 5)) tpa_nil))))) (tps_cons (tps_ret cB) tps_nil) tps_nil) tps_nil)) (tps_cons (tps_par2 (i := 4) (j := 5) rfl nd rfl rfl (by decide) rfl rfl cI (cu O_law_roll hr g_law_roll k_law_roll b_law_roll (a1 (sl 2) (a1 (to_val cI) tpa_nil))) rfl rfl rfl rfl) (tps_cons (tps_if (cmT (op_neD hr.units) (ok_ne rfl) (to_val (cg O_marked_rows hr g_marked_rows k_marked_rows b_marked_rows B.list (a1 (to_val (rd 4)) (a1 (to_val (rd 5)) tpa_nil)))) (to_val (cu O_law_marked_rows hr g_law_marked_rows k_law_marked_rows b_law_marked_rows (a1 (to_val (rd 4)) (a1 (to_val (rd 5)) tpa_nil))))) (tps_cons (tps_ret cB) tps_nil) tps_nil) tps_nil))))))) (tps_cons (tps_ret (cm (op_eqD hr.units) (ok_eq rfl) (to_val (cb call_len_seq (ok_len rfl) B.len rfl (a1 (to_val (cg O_marked_rows hr g_marked_rows k_marked_rows b_marked_rows B.list (a1 (to_val cI) (a1 (to_val cI) tpa_nil)))) tpa_nil))) (to_val (cb (cr_sumB rfl) (ok_sum rfl) B.sum rfl (a1 (to_val (tpe_lc (own := [("row", 6)]) rfl nd (tpi_seq rfl (to_val (cu O_law_area_rows hr g_law_area_rows k_law_area_rows b_law_area_rows (a1 (to_val cI) tpa_nil)))) (blkOk_by (N := N_law) (sc := defScope (top 43)) (own := [("row", 6)]) (by decide +kernel)) (fun _ _ _ _ _ => (gn 6 nd)) (fun _ _ _ _ _ => tpts_nil) (fun _ _ _ _ _ => (to_val (cb call_len_seq (ok_len rfl) B.len rfl (a1 (to_val (cu O_law_climbs hr g_law_climbs k_law_climbs b_law_climbs (a1 (to_val (rd 6)) tpa_nil))) tpa_nil)))) (by intro _; rfl) (by decide))) tpa_nil))))) tps_nil))
theorem sp_law {K : PySem.W.Frag} {w : World} {H : Hp} {a : Addr} {ns : List Int} {Q : VK} {E : XK} (hS : SqL K H a (ns.map V.int)) (hQ : ∀ H', Q (.bl true) H') : spT (tb K w) 1 B_law [.ref a] H Q E := by
  refine ⟨rfl, H, [.fz (.frz (intD ns))], ⟨Sub.refl _, rfl, fun i s e => ?_, fun i j b h1 _ => ?_⟩, rfl, ?_⟩
  · cases i with
    | zero =>
      simp at e
      subst e
      refine ⟨.ref a, rfl, ?_⟩
      unfold Rep
      exact ⟨a, _, rfl, hS, intD_rep ns⟩
    | succ i => simp at e
  · obtain ⟨⟨s, e, w⟩, _⟩ := h1
    cases i with
    | zero => simp at e; subst e; cases w
    | succ i => simp at e
  · rw [law_ok]
    intro v H' HF' _ _ rv
    have : v = .bl true := rv
    rw [this]
    exact hQ H'
end T
namespace Hd
open PySem PySem.Spec PyProof.Rows L2
theorem blt {K : PySem.W.Frag} {h : Heap} {mg : Str → Option Value} (X : K.In h) (G : h.Ns mainGlobals mg) (c : He.SaysD fa fn K) : T.Blt mg where
  len := He.free_ok X G (c.fact 37 (f := .free "len") rfl)
  range := He.free_ok X G (c.fact 38 (f := .free "range") rfl)
  tuple := He.free_ok X G (c.fact 39 (f := .free "tuple") rfl)
  list := He.free_ok X G (c.fact 40 (f := .free "list") rfl)
  zip := He.free_ok X G (c.fact 41 (f := .free "zip") rfl)
  enumerate := He.free_ok X G (c.fact 42 (f := .free "enumerate") rfl)
  all := He.free_ok X G (c.fact 43 (f := .free "all") rfl)
  sum := He.free_ok X G (c.fact 44 (f := .free "sum") rfl)
  set := He.free_ok X G (c.fact 45 (f := .free "set") rfl)
  sorted := He.free_ok X G (c.fact 46 (f := .free "sorted") rfl)
  isinstance := He.free_ok X G (c.fact 47 (f := .free "isinstance") rfl)
  int := He.free_ok X G (c.fact 48 (f := .free "int") rfl)
  bool := He.free_ok X G (c.fact 49 (f := .free "bool") rfl)
  abs := He.free_ok X G (c.fact 50 (f := .free "abs") rfl)
  repr := He.free_ok X G (c.fact 51 (f := .free "repr") rfl)
  min := He.free_ok X G (c.fact 52 (f := .free "min") rfl)
  max := He.free_ok X G (c.fact 53 (f := .free "max") rfl)
  super := He.free_ok X G (c.fact 54 (f := .free "super") rfl)
  MOST_ENTRIES := He.int_ok X G (c.fact 55 (f := .int "MOST_ENTRIES" 6) rfl)
  MOST_ROWED := He.int_ok X G (c.fact 56 (f := .int "MOST_ROWED" 6) rfl)
theorem here_is_whole_number {K : PySem.W.Frag} {h : Heap} {mg : Str → Option Value} (X : K.In h) (G : h.Ns mainGlobals mg) (c : He.SaysD fa fn K) : T.Here K mg "is_whole_number" 5 := by
  obtain ⟨fd, F⟩ := c.def_ 0 (d := d_is_whole_number) rfl
  exact ⟨_, fd, F, He.glo_ok X G (c.fact 0 (f := .glo "is_whole_number") rfl)⟩
theorem here_is_within {K : PySem.W.Frag} {h : Heap} {mg : Str → Option Value} (X : K.In h) (G : h.Ns mainGlobals mg) (c : He.SaysD fa fn K) : T.Here K mg "is_within" 6 := by
  obtain ⟨fd, F⟩ := c.def_ 1 (d := d_is_within) rfl
  exact ⟨_, fd, F, He.glo_ok X G (c.fact 1 (f := .glo "is_within") rfl)⟩
theorem here_area_rows_in {K : PySem.W.Frag} {h : Heap} {mg : Str → Option Value} (X : K.In h) (G : h.Ns mainGlobals mg) (c : He.SaysD fa fn K) : T.Here K mg "area_rows_in" 9 := by
  obtain ⟨fd, F⟩ := c.def_ 2 (d := d_area_rows_in) rfl
  exact ⟨_, fd, F, He.glo_ok X G (c.fact 2 (f := .glo "area_rows_in") rfl)⟩
theorem here_is_area_row_in {K : PySem.W.Frag} {h : Heap} {mg : Str → Option Value} (X : K.In h) (G : h.Ns mainGlobals mg) (c : He.SaysD fa fn K) : T.Here K mg "is_area_row_in" 10 := by
  obtain ⟨fd, F⟩ := c.def_ 3 (d := d_is_area_row_in) rfl
  exact ⟨_, fd, F, He.glo_ok X G (c.fact 3 (f := .glo "is_area_row_in") rfl)⟩
theorem here_does_climb {K : PySem.W.Frag} {h : Heap} {mg : Str → Option Value} (X : K.In h) (G : h.Ns mainGlobals mg) (c : He.SaysD fa fn K) : T.Here K mg "does_climb" 11 := by
  obtain ⟨fd, F⟩ := c.def_ 4 (d := d_does_climb) rfl
  exact ⟨_, fd, F, He.glo_ok X G (c.fact 4 (f := .glo "does_climb") rfl)⟩
theorem here_is_labelled_in {K : PySem.W.Frag} {h : Heap} {mg : Str → Option Value} (X : K.In h) (G : h.Ns mainGlobals mg) (c : He.SaysD fa fn K) : T.Here K mg "is_labelled_in" 12 := by
  obtain ⟨fd, F⟩ := c.def_ 5 (d := d_is_labelled_in) rfl
  exact ⟨_, fd, F, He.glo_ok X G (c.fact 5 (f := .glo "is_labelled_in") rfl)⟩
theorem here_index_pairs {K : PySem.W.Frag} {h : Heap} {mg : Str → Option Value} (X : K.In h) (G : h.Ns mainGlobals mg) (c : He.SaysD fa fn K) : T.Here K mg "index_pairs" 13 := by
  obtain ⟨fd, F⟩ := c.def_ 6 (d := d_index_pairs) rfl
  exact ⟨_, fd, F, He.glo_ok X G (c.fact 6 (f := .glo "index_pairs") rfl)⟩
theorem here_dinv_along {K : PySem.W.Frag} {h : Heap} {mg : Str → Option Value} (X : K.In h) (G : h.Ns mainGlobals mg) (c : He.SaysD fa fn K) : T.Here K mg "dinv_along" 14 := by
  obtain ⟨fd, F⟩ := c.def_ 7 (d := d_dinv_along) rfl
  exact ⟨_, fd, F, He.glo_ok X G (c.fact 7 (f := .glo "dinv_along") rfl)⟩
theorem here_path_counts_in {K : PySem.W.Frag} {h : Heap} {mg : Str → Option Value} (X : K.In h) (G : h.Ns mainGlobals mg) (c : He.SaysD fa fn K) : T.Here K mg "path_counts_in" 15 := by
  obtain ⟨fd, F⟩ := c.def_ 8 (d := d_path_counts_in) rfl
  exact ⟨_, fd, F, He.glo_ok X G (c.fact 8 (f := .glo "path_counts_in") rfl)⟩
theorem here_require_row {K : PySem.W.Frag} {h : Heap} {mg : Str → Option Value} (X : K.In h) (G : h.Ns mainGlobals mg) (c : He.SaysD fa fn K) : T.Here K mg "require_row" 16 := by
  obtain ⟨fd, F⟩ := c.def_ 9 (d := d_require_row) rfl
  exact ⟨_, fd, F, He.glo_ok X G (c.fact 9 (f := .glo "require_row") rfl)⟩
theorem here_rises_in {K : PySem.W.Frag} {h : Heap} {mg : Str → Option Value} (X : K.In h) (G : h.Ns mainGlobals mg) (c : He.SaysD fa fn K) : T.Here K mg "rises_in" 19 := by
  obtain ⟨fd, F⟩ := c.def_ 10 (d := d_rises_in) rfl
  exact ⟨_, fd, F, He.glo_ok X G (c.fact 10 (f := .glo "rises_in") rfl)⟩
theorem here_tuples_from {K : PySem.W.Frag} {h : Heap} {mg : Str → Option Value} (X : K.In h) (G : h.Ns mainGlobals mg) (c : He.SaysD fa fn K) : T.Here K mg "tuples_from" 20 := by
  obtain ⟨fd, F⟩ := c.def_ 11 (d := d_tuples_from) rfl
  exact ⟨_, fd, F, He.glo_ok X G (c.fact 11 (f := .glo "tuples_from") rfl)⟩
theorem here_are_marks_in {K : PySem.W.Frag} {h : Heap} {mg : Str → Option Value} (X : K.In h) (G : h.Ns mainGlobals mg) (c : He.SaysD fa fn K) : T.Here K mg "are_marks_in" 21 := by
  obtain ⟨fd, F⟩ := c.def_ 12 (d := d_are_marks_in) rfl
  exact ⟨_, fd, F, He.glo_ok X G (c.fact 12 (f := .glo "are_marks_in") rfl)⟩
theorem here_marked_pairs_in {K : PySem.W.Frag} {h : Heap} {mg : Str → Option Value} (X : K.In h) (G : h.Ns mainGlobals mg) (c : He.SaysD fa fn K) : T.Here K mg "marked_pairs_in" 22 := by
  obtain ⟨fd, F⟩ := c.def_ 13 (d := d_marked_pairs_in) rfl
  exact ⟨_, fd, F, He.glo_ok X G (c.fact 13 (f := .glo "marked_pairs_in") rfl)⟩
theorem here_marked_entries {K : PySem.W.Frag} {h : Heap} {mg : Str → Option Value} (X : K.In h) (G : h.Ns mainGlobals mg) (c : He.SaysD fa fn K) : T.Here K mg "marked_entries" 23 := by
  obtain ⟨fd, F⟩ := c.def_ 14 (d := d_marked_entries) rfl
  exact ⟨_, fd, F, He.glo_ok X G (c.fact 14 (f := .glo "marked_entries") rfl)⟩
theorem here_require_marks {K : PySem.W.Frag} {h : Heap} {mg : Str → Option Value} (X : K.In h) (G : h.Ns mainGlobals mg) (c : He.SaysD fa fn K) : T.Here K mg "require_marks" 24 := by
  obtain ⟨fd, F⟩ := c.def_ 15 (d := d_require_marks) rfl
  exact ⟨_, fd, F, He.glo_ok X G (c.fact 15 (f := .glo "require_marks") rfl)⟩
theorem here_require_size_and_many {K : PySem.W.Frag} {h : Heap} {mg : Str → Option Value} (X : K.In h) (G : h.Ns mainGlobals mg) (c : He.SaysD fa fn K) : T.Here K mg "require_size_and_many" 25 := by
  obtain ⟨fd, F⟩ := c.def_ 16 (d := d_require_size_and_many) rfl
  exact ⟨_, fd, F, He.glo_ok X G (c.fact 16 (f := .glo "require_size_and_many") rfl)⟩
theorem here_rises {K : PySem.W.Frag} {h : Heap} {mg : Str → Option Value} (X : K.In h) (G : h.Ns mainGlobals mg) (c : He.SaysD fa fn K) : T.Here K mg "rises" 26 := by
  obtain ⟨fd, F⟩ := c.def_ 17 (d := d_rises) rfl
  exact ⟨_, fd, F, He.glo_ok X G (c.fact 17 (f := .glo "rises") rfl)⟩
theorem here_are_marks {K : PySem.W.Frag} {h : Heap} {mg : Str → Option Value} (X : K.In h) (G : h.Ns mainGlobals mg) (c : He.SaysD fa fn K) : T.Here K mg "are_marks" 27 := by
  obtain ⟨fd, F⟩ := c.def_ 18 (d := d_are_marks) rfl
  exact ⟨_, fd, F, He.glo_ok X G (c.fact 18 (f := .glo "are_marks") rfl)⟩
theorem here_marked_rows {K : PySem.W.Frag} {h : Heap} {mg : Str → Option Value} (X : K.In h) (G : h.Ns mainGlobals mg) (c : He.SaysD fa fn K) : T.Here K mg "marked_rows" 28 := by
  obtain ⟨fd, F⟩ := c.def_ 19 (d := d_marked_rows) rfl
  exact ⟨_, fd, F, He.glo_ok X G (c.fact 19 (f := .glo "marked_rows") rfl)⟩
theorem here_marked_counts {K : PySem.W.Frag} {h : Heap} {mg : Str → Option Value} (X : K.In h) (G : h.Ns mainGlobals mg) (c : He.SaysD fa fn K) : T.Here K mg "marked_counts" 29 := by
  obtain ⟨fd, F⟩ := c.def_ 20 (d := d_marked_counts) rfl
  exact ⟨_, fd, F, He.glo_ok X G (c.fact 20 (f := .glo "marked_counts") rfl)⟩
theorem here_law_dice {K : PySem.W.Frag} {h : Heap} {mg : Str → Option Value} (X : K.In h) (G : h.Ns mainGlobals mg) (c : He.SaysD fa fn K) : T.Here K mg "_law_dice" 31 := by
  obtain ⟨fd, F⟩ := c.def_ 21 (d := d_law_dice) rfl
  exact ⟨_, fd, F, He.glo_ok X G (c.fact 21 (f := .glo "_law_dice") rfl)⟩
theorem here_law_roll {K : PySem.W.Frag} {h : Heap} {mg : Str → Option Value} (X : K.In h) (G : h.Ns mainGlobals mg) (c : He.SaysD fa fn K) : T.Here K mg "_law_roll" 32 := by
  obtain ⟨fd, F⟩ := c.def_ 22 (d := d_law_roll) rfl
  exact ⟨_, fd, F, He.glo_ok X G (c.fact 22 (f := .glo "_law_roll") rfl)⟩
theorem here_law_one_of {K : PySem.W.Frag} {h : Heap} {mg : Str → Option Value} (X : K.In h) (G : h.Ns mainGlobals mg) (c : He.SaysD fa fn K) : T.Here K mg "_law_one_of" 33 := by
  obtain ⟨fd, F⟩ := c.def_ 23 (d := d_law_one_of) rfl
  exact ⟨_, fd, F, He.glo_ok X G (c.fact 23 (f := .glo "_law_one_of") rfl)⟩
theorem here_law_mixed {K : PySem.W.Frag} {h : Heap} {mg : Str → Option Value} (X : K.In h) (G : h.Ns mainGlobals mg) (c : He.SaysD fa fn K) : T.Here K mg "_law_mixed" 34 := by
  obtain ⟨fd, F⟩ := c.def_ 24 (d := d_law_mixed) rfl
  exact ⟨_, fd, F, He.glo_ok X G (c.fact 24 (f := .glo "_law_mixed") rfl)⟩
theorem here_law_path_counts {K : PySem.W.Frag} {h : Heap} {mg : Str → Option Value} (X : K.In h) (G : h.Ns mainGlobals mg) (c : He.SaysD fa fn K) : T.Here K mg "_law_path_counts" 35 := by
  obtain ⟨fd, F⟩ := c.def_ 25 (d := d_law_path_counts) rfl
  exact ⟨_, fd, F, He.glo_ok X G (c.fact 25 (f := .glo "_law_path_counts") rfl)⟩
theorem here_law_area_rows {K : PySem.W.Frag} {h : Heap} {mg : Str → Option Value} (X : K.In h) (G : h.Ns mainGlobals mg) (c : He.SaysD fa fn K) : T.Here K mg "_law_area_rows" 36 := by
  obtain ⟨fd, F⟩ := c.def_ 26 (d := d_law_area_rows) rfl
  exact ⟨_, fd, F, He.glo_ok X G (c.fact 26 (f := .glo "_law_area_rows") rfl)⟩
theorem here_law_climbs {K : PySem.W.Frag} {h : Heap} {mg : Str → Option Value} (X : K.In h) (G : h.Ns mainGlobals mg) (c : He.SaysD fa fn K) : T.Here K mg "_law_climbs" 37 := by
  obtain ⟨fd, F⟩ := c.def_ 27 (d := d_law_climbs) rfl
  exact ⟨_, fd, F, He.glo_ok X G (c.fact 27 (f := .glo "_law_climbs") rfl)⟩
theorem here_law_lots_from {K : PySem.W.Frag} {h : Heap} {mg : Str → Option Value} (X : K.In h) (G : h.Ns mainGlobals mg) (c : He.SaysD fa fn K) : T.Here K mg "_law_lots_from" 38 := by
  obtain ⟨fd, F⟩ := c.def_ 28 (d := d_law_lots_from) rfl
  exact ⟨_, fd, F, He.glo_ok X G (c.fact 28 (f := .glo "_law_lots_from") rfl)⟩
theorem here_law_marked_rows {K : PySem.W.Frag} {h : Heap} {mg : Str → Option Value} (X : K.In h) (G : h.Ns mainGlobals mg) (c : He.SaysD fa fn K) : T.Here K mg "_law_marked_rows" 39 := by
  obtain ⟨fd, F⟩ := c.def_ 29 (d := d_law_marked_rows) rfl
  exact ⟨_, fd, F, He.glo_ok X G (c.fact 29 (f := .glo "_law_marked_rows") rfl)⟩
theorem here_law_is_lot {K : PySem.W.Frag} {h : Heap} {mg : Str → Option Value} (X : K.In h) (G : h.Ns mainGlobals mg) (c : He.SaysD fa fn K) : T.Here K mg "_law_is_lot" 40 := by
  obtain ⟨fd, F⟩ := c.def_ 30 (d := d_law_is_lot) rfl
  exact ⟨_, fd, F, He.glo_ok X G (c.fact 30 (f := .glo "_law_is_lot") rfl)⟩
theorem here_law_near_lots {K : PySem.W.Frag} {h : Heap} {mg : Str → Option Value} (X : K.In h) (G : h.Ns mainGlobals mg) (c : He.SaysD fa fn K) : T.Here K mg "_law_near_lots" 41 := by
  obtain ⟨fd, F⟩ := c.def_ 31 (d := d_law_near_lots) rfl
  exact ⟨_, fd, F, He.glo_ok X G (c.fact 31 (f := .glo "_law_near_lots") rfl)⟩
theorem here_law_right {K : PySem.W.Frag} {h : Heap} {mg : Str → Option Value} (X : K.In h) (G : h.Ns mainGlobals mg) (c : He.SaysD fa fn K) : T.Here K mg "_law_right" 42 := by
  obtain ⟨fd, F⟩ := c.def_ 32 (d := d_law_right) rfl
  exact ⟨_, fd, F, He.glo_ok X G (c.fact 32 (f := .glo "_law_right") rfl)⟩
theorem here_law {K : PySem.W.Frag} {h : Heap} {mg : Str → Option Value} (X : K.In h) (G : h.Ns mainGlobals mg) (c : He.SaysD fa fn K) : T.Here K mg "law" 43 := by
  obtain ⟨fd, F⟩ := c.def_ 33 (d := d_law) rfl
  exact ⟨_, fd, F, He.glo_ok X G (c.fact 33 (f := .glo "law") rfl)⟩
theorem facts {P : Program} {w : World} {K : PySem.W.Frag} {h : Heap} {mg : Str → Option Value} {f : Addr} (X : K.In h) (G : h.Ns mainGlobals mg) (hfa : mg ("law" : Str) = some (.ref f)) (c : He.SaysD fa fn K) :
    ∃ fd : FuncData, (∀ (s : Shared) (v : Value), BindsTo s fd ⟨[v], []⟩ [("script", v)]) ∧ ∀ base : Heap, K.In base → base.Ns mainGlobals mg → FnOk P w K mg base CX0 8 f fd ["script"] (T.spT (T.tb K w) 1 T.B_law) := by
  have B := blt X G c
  have H_is_whole_number : ∀ base : Heap, T.Has P w K mg base 1 "is_whole_number" 1 T.F_is_whole_number := fun base => T.ok_is_whole_number B (here_is_whole_number X G c) 
  have H_is_within : ∀ base : Heap, T.Has P w K mg base 2 "is_within" 3 T.F_is_within := fun base => T.ok_is_within B (here_is_within X G c) (H_is_whole_number base)
  have H_area_rows_in : ∀ base : Heap, T.Has P w K mg base 1 "area_rows_in" 1 T.F_area_rows_in := fun base => T.ok_area_rows_in B (here_area_rows_in X G c) 
  have H_is_area_row_in : ∀ base : Heap, T.Has P w K mg base 3 "is_area_row_in" 1 T.F_is_area_row_in := fun base => T.ok_is_area_row_in B (here_is_area_row_in X G c) (H_is_within base)
  have H_does_climb : ∀ base : Heap, T.Has P w K mg base 1 "does_climb" 2 T.F_does_climb := fun base => T.ok_does_climb B (here_does_climb X G c) 
  have H_is_labelled_in : ∀ base : Heap, T.Has P w K mg base 3 "is_labelled_in" 2 T.F_is_labelled_in := fun base => T.ok_is_labelled_in B (here_is_labelled_in X G c) (H_does_climb base) (H_is_within base)
  have H_index_pairs : ∀ base : Heap, T.Has P w K mg base 1 "index_pairs" 1 T.F_index_pairs := fun base => T.ok_index_pairs B (here_index_pairs X G c) 
  have H_dinv_along : ∀ base : Heap, T.Has P w K mg base 1 "dinv_along" 2 T.F_dinv_along := fun base => T.ok_dinv_along B (here_dinv_along X G c) 
  have H_path_counts_in : ∀ base : Heap, T.Has P w K mg base 2 "path_counts_in" 2 T.F_path_counts_in := fun base => T.ok_path_counts_in B (here_path_counts_in X G c) (H_dinv_along base) (H_index_pairs base)
  have H_require_row : ∀ base : Heap, T.Has P w K mg base 4 "require_row" 1 T.F_require_row := fun base => T.ok_require_row B (here_require_row X G c) (H_is_area_row_in base)
  have H_rises_in : ∀ base : Heap, T.Has P w K mg base 2 "rises_in" 1 T.F_rises_in := fun base => T.ok_rises_in B (here_rises_in X G c) (H_does_climb base)
  have H_tuples_from : ∀ base : Heap, T.Has P w K mg base 1 "tuples_from" 2 T.F_tuples_from := fun base => T.ok_tuples_from B (here_tuples_from X G c) 
  have H_are_marks_in : ∀ base : Heap, T.Has P w K mg base 3 "are_marks_in" 2 T.F_are_marks_in := fun base => T.ok_are_marks_in B (here_are_marks_in X G c) (H_rises_in base) (H_is_within base)
  have H_marked_pairs_in : ∀ base : Heap, T.Has P w K mg base 3 "marked_pairs_in" 2 T.F_marked_pairs_in := fun base => T.ok_marked_pairs_in B (here_marked_pairs_in X G c) (H_area_rows_in base) (H_tuples_from base) (H_rises_in base)
  have H_marked_entries : ∀ base : Heap, T.Has P w K mg base 1 "marked_entries" 2 T.F_marked_entries := fun base => T.ok_marked_entries B (here_marked_entries X G c) 
  have H_require_marks : ∀ base : Heap, T.Has P w K mg base 5 "require_marks" 2 T.F_require_marks := fun base => T.ok_require_marks B (here_require_marks X G c) (H_are_marks_in base) (H_require_row base)
  have H_require_size_and_many : ∀ base : Heap, T.Has P w K mg base 3 "require_size_and_many" 3 T.F_require_size_and_many := fun base => T.ok_require_size_and_many B (here_require_size_and_many X G c) (H_is_within base)
  have H_rises : ∀ base : Heap, T.Has P w K mg base 5 "rises" 1 T.F_rises := fun base => T.ok_rises B (here_rises X G c) (H_rises_in base) (H_require_row base)
  have H_are_marks : ∀ base : Heap, T.Has P w K mg base 5 "are_marks" 2 T.F_are_marks := fun base => T.ok_are_marks B (here_are_marks X G c) (H_are_marks_in base) (H_require_row base)
  have H_marked_rows : ∀ base : Heap, T.HasG P w K mg base 4 "marked_rows" 2 T.F_marked_rows := fun base => T.ok_marked_rows B (here_marked_rows X G c) (H_require_size_and_many base) (H_marked_pairs_in base)
  have H_marked_counts : ∀ base : Heap, T.Has P w K mg base 6 "marked_counts" 3 T.F_marked_counts := fun base => T.ok_marked_counts B (here_marked_counts X G c) (H_marked_entries base) (H_path_counts_in base) (H_is_labelled_in base) (H_require_marks base)
  have H_law_dice : ∀ base : Heap, T.Has P w K mg base 1 "_law_dice" 2 T.F_law_dice := fun base => T.ok_law_dice B (here_law_dice X G c) 
  have H_law_roll : ∀ base : Heap, T.Has P w K mg base 1 "_law_roll" 2 T.F_law_roll := fun base => T.ok_law_roll B (here_law_roll X G c) 
  have H_law_one_of : ∀ base : Heap, T.Has P w K mg base 2 "_law_one_of" 2 T.F_law_one_of := fun base => T.ok_law_one_of B (here_law_one_of X G c) (H_law_roll base)
  have H_law_mixed : ∀ base : Heap, T.Has P w K mg base 2 "_law_mixed" 2 T.F_law_mixed := fun base => T.ok_law_mixed B (here_law_mixed X G c) (H_law_roll base)
  have H_law_path_counts : ∀ base : Heap, T.Has P w K mg base 1 "_law_path_counts" 2 T.F_law_path_counts := fun base => T.ok_law_path_counts B (here_law_path_counts X G c) 
  have H_law_area_rows : ∀ base : Heap, T.Has P w K mg base 1 "_law_area_rows" 1 T.F_law_area_rows := fun base => T.ok_law_area_rows B (here_law_area_rows X G c) 
  have H_law_climbs : ∀ base : Heap, T.Has P w K mg base 1 "_law_climbs" 1 T.F_law_climbs := fun base => T.ok_law_climbs B (here_law_climbs X G c) 
  have H_law_lots_from : ∀ base : Heap, T.Has P w K mg base 1 "_law_lots_from" 2 T.F_law_lots_from := fun base => T.ok_law_lots_from B (here_law_lots_from X G c) 
  have H_law_marked_rows : ∀ base : Heap, T.Has P w K mg base 2 "_law_marked_rows" 2 T.F_law_marked_rows := fun base => T.ok_law_marked_rows B (here_law_marked_rows X G c) (H_law_area_rows base) (H_law_lots_from base) (H_law_climbs base)
  have H_law_is_lot : ∀ base : Heap, T.Has P w K mg base 2 "_law_is_lot" 2 T.F_law_is_lot := fun base => T.ok_law_is_lot B (here_law_is_lot X G c) (H_law_climbs base)
  have H_law_near_lots : ∀ base : Heap, T.Has P w K mg base 2 "_law_near_lots" 3 T.F_law_near_lots := fun base => T.ok_law_near_lots B (here_law_near_lots X G c) (H_law_climbs base)
  have H_law_right : ∀ base : Heap, T.Has P w K mg base 7 "_law_right" 1 T.F_law_right := fun base => T.ok_law_right B (here_law_right X G c) (H_marked_counts base) (H_law_path_counts base) (H_law_mixed base) (H_law_near_lots base) (H_are_marks base) (H_law_is_lot base) (H_law_one_of base) (H_law_lots_from base) (H_law_roll base) (H_rises base) (H_law_climbs base) (H_law_area_rows base)
  obtain ⟨fd, F⟩ := c.def_ 33 (d := d_law) rfl
  have e := hfa.symm.trans (He.glo_ok X G (c.fact 33 (f := .glo "law") rfl))
  cases e
  have b := FunD.bindsA (ps := ["script"]) F fun _ _ _ _ _ _ us hl => match us, hl with | [_], _ => rfl
  refine ⟨fd, fun s v => b s [v] rfl, fun base _ _ => ?_⟩
  exact T.okf_law B F (H_marked_rows base) (H_law_area_rows base) (H_law_climbs base) (H_law_marked_rows base) (H_law_roll base) (H_law_right base) (H_law_dice base)
end Hd
open PySem PySem.W PySem.Calls PyProof.Rows
theorem PySem.Challenge.cw_armrises_k76_whole_rises_marks_and_marke_holds : PySem.Challenge.rw_armrises_k76_whole_rises_marks_and_marke.Holds := by
  w_on; o_law
  refine HandSHeadRun.head_any (r := OpenLaw.row PySem.Challenge.rw_armrises_k76_whole_rises_marks_and_marke) (q := view (OpenLaw.row PySem.Challenge.rw_armrises_k76_whole_rises_marks_and_marke).prog [43]) (H := Hd.hk) (ob := Hd.ob) (M := 6000) (loose := Hd.names) (d := HandSHeadRun.topDef (OpenLaw.row PySem.Challenge.rw_armrises_k76_whole_rises_marks_and_marke).prog 43) (kwd := []) Hd.ob_eq
    (by kernel_rfl) (fun s => by kernel_rfl) Hd.run (by kernel_rfl) (by kernel_rfl) (by kernel_rfl) (by rfl) (by first | assumption | decide +kernel) (by decide +kernel) ⟨rfl, rfl, rfl, rfl, rfl, by decide +kernel⟩ ?hw ?hc
  case hw => w_witness2
  case hc =>
    refine L2.walk_ofE (l := PySem.Challenge.rw_armrises_k76_whole_rises_marks_and_marke) (n := 63) (k := 8) (x := "script") (CX := L2.CX0) rfl (by decide) (by kernel_rfl) ⟨rfl, by decide, by decide⟩ ?F (fun _ _ _ _ z => z)
    intro w mg fa h Y G hmg0
    obtain ⟨K, KX, c⟩ := Y
    have hmg : mg ("law" : PySem.Str) = some (.ref fa) := by
      have e : (HandSHeadRun.topDef (OpenLaw.row PySem.Challenge.rw_armrises_k76_whole_rises_marks_and_marke).prog 43).name = ("law" : PySem.Str) := by kernel_rfl
      rw [← e]
      exact hmg0
    obtain ⟨fd, hb, hF⟩ := Hd.facts (P := (PySem.Challenge.rw_armrises_k76_whole_rises_marks_and_marke).prog) (w := w) KX G hmg c
    exact ⟨K, fd, T.spT (T.tb K w) 1 T.B_law, KX, hb, fun H a ns hl _ hS => T.sp_law hS fun _ => rfl, hF⟩